import PyProof.Rows.All
import Wide.All
import OpenK.AllK
import Wide.FinOn
import HandS.ForMost
import HandS.Exc
import HandS.Defaults
import HandS.IsInst
import HandS.Flow
import HandS.Wide
import HandS.Codes
import HandS.TupAny
import HandS.Style
import HandS.CallSlots
import HandS.HeadHook1
import HandS.HeadHook2
import HandS.Head0
import HandS.Head1
import HandS.Head2
import HandS.HeadEnd
import HandS.More
import HandS.MakeKwOnly
import HandS.Property
import HandS.ClsMeth
import HandS.HeadHook3
import HandS.Strs
import KE.KRevSl
import HandS.HeadNt
import KE.GoesZip
import KE.GoesMore
import KE.GoesEnum
import HandS.Sort
import HandS.RaiseMore
import HandS.Set
import HandS.SetFor
import PyProof.Rows.SortShellAny
import PyProof.Rows.StrMeet
import PyProof.P3Eq
import HandS.OwnEq
import HandS.ExcInit
import HandS.ExcField
import KE.KExcIs
import HandS.ExcIs
import KE.KCallOwn
import HandS.Conv
import KE.KStateDown
import Lean
import PySem.Challenge.RW_foundtwice_k24_steps_of_set_and_add
set_option Elab.async false
set_option linter.all false
set_option maxRecDepth 100000
set_option maxHeartbeats 0
namespace DL
open PySem L2
inductive Dv where
  | non | bl (b : Bool) | int (i : Int) | str (x : Str) | tup (l : List Dv) | lst (l : List Dv) | rol (l : List Dv) | dic (l : List (Key × Dv)) | obj (c : Str) (fs : List (Str × Dv)) | hdl (k : Nat) | glo (x : Str) | ty (n : String)
inductive Ob where
  | lst (l : List Dv) | dct (l : List (Key × Dv)) | ins (c : Str) (fs : List (Str × Dv))
abbrev Sto := List Ob
inductive Sl where
  | no | va (d : Dv) | own (o : Ob)
abbrev Sl.ow (l : List Dv) : Sl := .own (.lst l)
abbrev Sl.od (l : List (Key × Dv)) : Sl := .own (.dct l)
abbrev Sl.oi (c : Str) (fs : List (Str × Dv)) : Sl := .own (.ins c fs)
abbrev Env := List Sl
/-- a tuple of the top -/
def TK (K : PySem.W.Frag) (a : Addr) (xs : List V) : Prop := (∀ H', SqT K H' a xs) ∧ ∃ o, K.lookup a = some o ∧ o.cls = .type "tuple" ∧ o.dict = none
section
variable (K : PySem.W.Frag) (L : Addr → Prop) (io : List Addr) (H : Hp)
mutual
inductive VR : V → Dv → Prop
  | non : VR .non .non
  | bl (b : Bool) : VR (.bl b) (.bl b)
  | int (i : Int) : VR (.int i) (.int i)
  | str (x : Str) : VR (.str x) (.str x)
  | tup {a : Addr} {xs : List V} {ds : List Dv} : ¬ L a → H a = some (.tup xs) → VRs xs ds → VR (.ref a) (.tup ds)
  | tupK {a : Addr} {xs : List V} {ds : List Dv} : TK K a xs → VRs xs ds → VR (.ref a) (.tup ds)
  | lst {a : Addr} {xs : List V} {ds : List Dv} : ¬ L a → H a = some (.lst xs) → VRs xs ds → VR (.ref a) (.lst ds)
  | rol {a : Addr} {xs : List V} {ds : List Dv} : ¬ L a → Rd H a (.lst xs) → VRs xs ds → VR (.ref a) (.rol ds)
  | rolK {a : Addr} {xs : List V} {ds : List Dv} : (∀ H', SqL K H' a xs) → VRs xs ds → VR (.ref a) (.rol ds)
  | dic {a : Addr} {kvs : List (Key × V)} {l : List (Key × Dv)} : ¬ L a → Rd H a (.dK kvs) → VRp kvs l → VR (.ref a) (.dic l)
  | obj {a dx : Addr} {c : Str} {vs : List (Str × V)} {fs : List (Str × Dv)} : ¬ L a → H a = some (.ins (He.ga K c) dx vs) → VRf vs fs → VR (.ref a) (.obj c fs)
  | hdl {a : Addr} {k : Nat} : io[k]? = some a → VR (.ref a) (.hdl k)
  | glo (x : Str) : VR (.ref (He.ga K x)) (.glo x)
  | ty (n : String) : VR (.ty n) (.ty n)
inductive VRs : List V → List Dv → Prop
  | nil : VRs [] []
  | cons {v : V} {vs : List V} {d : Dv} {ds : List Dv} : VR v d → VRs vs ds → VRs (v :: vs) (d :: ds)
inductive VRp : List (Key × V) → List (Key × Dv) → Prop
  | nil : VRp [] []
  | cons {k : Key} {v : V} {vs : List (Key × V)} {d : Dv} {ds : List (Key × Dv)} : VR v d → VRp vs ds → VRp ((k, v) :: vs) ((k, d) :: ds)
inductive VRf : List (Str × V) → List (Str × Dv) → Prop
  | nil : VRf [] []
  | cons {k : Str} {v : V} {vs : List (Str × V)} {d : Dv} {ds : List (Str × Dv)} : VR v d → VRf vs ds → VRf ((k, v) :: vs) ((k, d) :: ds)
end
end
/-- from one state to a later one: handles are added, what is new is fresh, what is no handle's stands -/
structure Stp (L : Addr → Prop) (io : List Addr) (H : Hp) (L' : Addr → Prop) (io' : List Addr) (H' : Hp) : Prop where
  pre : ∃ more, io' = io ++ more
  hn : ∀ x ∈ io', x ∈ io ∨ H x = none
  new : ∀ a, L' a → L a ∨ H a = none
  keep : ∀ a o, H a = some o → a ∉ io → H' a = some o
  up : ∀ a, L a → L' a
theorem Stp.refl (L : Addr → Prop) (io : List Addr) (H : Hp) : Stp L io H L io H := ⟨⟨[], by simp⟩, fun _ h => .inl h, fun _ h => .inl h, fun _ _ h _ => h, fun _ h => h⟩
theorem Stp.back {L L1 : Addr → Prop} {io io1 : List Addr} {H H1 : Hp} (a : Stp L io H L1 io1 H1) {x : Addr} (h : H1 x = none) : x ∈ io ∨ H x = none := by
  cases e : H x with
  | none => exact .inr rfl
  | some o =>
    by_cases hx : x ∈ io
    · exact .inl hx
    · rw [a.keep x o e hx] at h
      cases h
theorem Stp.trans {L L1 L2 : Addr → Prop} {io io1 io2 : List Addr} {H H1 H2 : Hp} (a : Stp L io H L1 io1 H1) (b : Stp L1 io1 H1 L2 io2 H2) (sub : ∀ x ∈ io, L x) : Stp L io H L2 io2 H2 where
  pre := by
    obtain ⟨m, rfl⟩ := a.pre
    obtain ⟨m1, rfl⟩ := b.pre
    exact ⟨m ++ m1, by simp⟩
  hn := fun x h => by
    rcases b.hn x h with h1 | h1
    · exact a.hn x h1
    · exact a.back h1
  new := fun x h => by
    rcases b.new x h with h1 | h1
    · exact a.new x h1
    · rcases a.back h1 with z | z
      · exact .inl (sub x z)
      · exact .inr z
  keep := fun x o h hn => by
    refine b.keep x o (a.keep x o h hn) fun hx => ?_
    rcases a.hn x hx with z | z
    · exact hn z
    · rw [z] at h; cases h
  up := fun x h => b.up x (a.up x h)
theorem rd_keep {H H' : Hp} {a : Addr} {u : HO} (r : Rd H a u) (k : ∀ o, H a = some o → H' a = some o) : Rd H' a u := by
  rcases r with r | ⟨o, r⟩
  · exact .inl (k _ r)
  · exact .inr ⟨o, k _ r⟩
theorem rd_some {H : Hp} {a : Addr} {u : HO} (r : Rd H a u) : ∃ o, H a = some o := by
  rcases r with r | ⟨o, r⟩
  · exact ⟨_, r⟩
  · exact ⟨_, r⟩
theorem io_keep {io more : List Addr} {k : Nat} {a : Addr} (h : io[k]? = some a) : (io ++ more)[k]? = some a := by
  have := (List.getElem?_eq_some_iff.mp h).1
  rw [List.getElem?_append_left this]
  exact h
section
variable {K : PySem.W.Frag} {L L' : Addr → Prop} {io io' : List Addr} {H H' : Hp}
/-- the general way on: handles stay, what is not volatile stands and stays not volatile -/
theorem VR.on (hp : ∀ (k : Nat) (a : Addr), io[k]? = some a → io'[k]? = some a) (hl : ∀ a o, H a = some o → ¬ L a → H' a = some o ∧ ¬ L' a) :
    ∀ {v : V} {d : Dv}, VR K L io H v d → VR K L' io' H' v d := by
  intro v d h
  refine VR.rec (motive_1 := fun v d _ => VR K L' io' H' v d) (motive_2 := fun vs ds _ => VRs K L' io' H' vs ds) (motive_3 := fun vs ds _ => VRp K L' io' H' vs ds) (motive_4 := fun vs ds _ => VRf K L' io' H' vs ds) ?_ ?_ ?_ ?_ ?_ ?_ ?_ ?_ ?_ ?_ ?_ ?_ ?_ ?_ ?_ ?_ ?_ ?_ ?_ ?_ h
  · exact .non
  · exact fun b => .bl b
  · exact fun i => .int i
  · exact fun x => .str x
  · intro a xs ds nl e _ ih
    exact .tup (hl a _ e nl).2 (hl a _ e nl).1 ih
  · exact fun h _ ih => .tupK h ih
  · intro a xs ds nl e _ ih
    exact .lst (hl a _ e nl).2 (hl a _ e nl).1 ih
  · intro a xs ds nl r _ ih
    obtain ⟨o, e⟩ := rd_some r
    exact .rol (hl a o e nl).2 (rd_keep r fun o e => (hl a o e nl).1) ih
  · exact fun h _ ih => .rolK h ih
  · intro a xs ds nl r _ ih
    obtain ⟨o, e⟩ := rd_some r
    exact .dic (hl a o e nl).2 (rd_keep r fun o e => (hl a o e nl).1) ih
  · intro a dx c vs fs nl e _ ih
    exact .obj (hl a _ e nl).2 (hl a _ e nl).1 ih
  · exact fun h => .hdl (hp _ _ h)
  · exact fun x => .glo x
  · exact fun n => .ty n
  · exact .nil
  · exact fun _ _ h1 h2 => .cons h1 h2
  · exact .nil
  · exact fun _ _ h1 h2 => .cons h1 h2
  · exact .nil
  · exact fun _ _ h1 h2 => .cons h1 h2
theorem VRs.on (hp : ∀ (k : Nat) (a : Addr), io[k]? = some a → io'[k]? = some a) (hl : ∀ a o, H a = some o → ¬ L a → H' a = some o ∧ ¬ L' a) :
    ∀ {vs : List V} {ds : List Dv}, VRs K L io H vs ds → VRs K L' io' H' vs ds
  | _, _, .nil => .nil
  | _, _, .cons h t => .cons (VR.on hp hl h) (VRs.on hp hl t)
theorem Stp.on (s : Stp L io H L' io' H') (sub : ∀ x ∈ io, L x) : (∀ (k : Nat) (a : Addr), io[k]? = some a → io'[k]? = some a) ∧ (∀ a o, H a = some o → ¬ L a → H' a = some o ∧ ¬ L' a) := by
  refine ⟨fun k a h => ?_, fun a o h nl => ⟨s.keep a o h fun z => nl (sub a z), fun z => ?_⟩⟩
  · obtain ⟨m, rfl⟩ := s.pre
    exact io_keep h
  · rcases s.new a z with q | q
    · exact nl q
    · rw [q] at h; cases h
theorem VR.step {v : V} {d : Dv} (h : VR K L io H v d) (s : Stp L io H L' io' H') (sub : ∀ x ∈ io, L x) : VR K L' io' H' v d := VR.on (s.on sub).1 (s.on sub).2 h
theorem VRs.step {v : List V} {d : List Dv} (h : VRs K L io H v d) (s : Stp L io H L' io' H') (sub : ∀ x ∈ io, L x) : VRs K L' io' H' v d := VRs.on (s.on sub).1 (s.on sub).2 h
theorem VR.less {v : V} {d : Dv} (h : VR K L io H v d) (hl : ∀ a, L' a → L a) : VR K L' io H v d := VR.on (fun _ _ h => h) (fun a o e n => ⟨e, fun z => n (hl a z)⟩) h
theorem VRs.less {v : List V} {d : List Dv} (h : VRs K L io H v d) (hl : ∀ a, L' a → L a) : VRs K L' io H v d := VRs.on (fun _ _ h => h) (fun a o e n => ⟨e, fun z => n (hl a z)⟩) h
/-- a volatile thing is changed -/
theorem VR.mut {v : V} {d : Dv} {p : Addr} {o : HO} (h : VR K L io H v d) (hp : L p) : VR K L io (upd H p o) v d :=
  VR.on (fun _ _ h => h) (fun a u e n => ⟨by rw [upd_ne (fun z => n (by rw [z]; exact hp))]; exact e, n⟩) h
theorem VRs.mut {v : List V} {d : List Dv} {p : Addr} {o : HO} (h : VRs K L io H v d) (hp : L p) : VRs K L io (upd H p o) v d :=
  VRs.on (fun _ _ h => h) (fun a u e n => ⟨by rw [upd_ne (fun z => n (by rw [z]; exact hp))]; exact e, n⟩) h
theorem VRs.mono (m : ∀ v d, VR K L io H v d → VR K L' io' H' v d) : ∀ {vs : List V} {ds : List Dv}, VRs K L io H vs ds → VRs K L' io' H' vs ds
  | _, _, .nil => .nil
  | _, _, .cons h t => .cons (m _ _ h) (VRs.mono m t)
theorem VRs.len : ∀ {vs : List V} {ds : List Dv}, VRs K L io H vs ds → vs.length = ds.length
  | _, _, .nil => rfl
  | _, _, .cons _ t => by rw [List.length_cons, List.length_cons, VRs.len t]
theorem VRs.get : ∀ {vs : List V} {ds : List Dv} {i : Nat} {d : Dv}, VRs K L io H vs ds → ds[i]? = some d → ∃ v, vs[i]? = some v ∧ VR K L io H v d
  | _, _, _, _, .nil, e => by simp at e
  | _, _, 0, _, .cons h _, e => by simp at e; subst e; exact ⟨_, rfl, h⟩
  | _, _, i + 1, _, .cons _ t, e => by
    obtain ⟨v, h1, h2⟩ := VRs.get (i := i) t (by simpa using e)
    exact ⟨v, by simpa using h1, h2⟩
theorem VRs.app : ∀ {vs ws : List V} {ds es : List Dv}, VRs K L io H vs ds → VRs K L io H ws es → VRs K L io H (vs ++ ws) (ds ++ es)
  | _, _, _, _, .nil, h => h
  | _, _, _, _, .cons h t, h2 => .cons h (VRs.app t h2)
theorem VRs.set {v : V} {d : Dv} (h : VR K L io H v d) : ∀ {vs : List V} {ds : List Dv} (i : Nat), VRs K L io H vs ds → VRs K L io H (vs.set i v) (ds.set i d)
  | _, _, _, .nil => .nil
  | _, _, 0, .cons _ t => .cons h t
  | _, _, i + 1, .cons q t => .cons q (VRs.set h i t)
theorem VRs.take : ∀ {vs : List V} {ds : List Dv} (n : Nat), VRs K L io H vs ds → VRs K L io H (vs.take n) (ds.take n)
  | _, _, 0, _ => .nil
  | _, _, _ + 1, .nil => .nil
  | _, _, n + 1, .cons h t => .cons h (VRs.take n t)
theorem VRs.drop : ∀ {vs : List V} {ds : List Dv} (n : Nat), VRs K L io H vs ds → VRs K L io H (vs.drop n) (ds.drop n)
  | _, _, 0, h => h
  | _, _, _ + 1, .nil => .nil
  | _, _, n + 1, .cons _ t => VRs.drop n t
end
def PairR {α : Type} (R : V → Dv → Prop) : List (α × V) → List (α × Dv) → Prop := Paired fun p q => p.1 = q.1 ∧ R p.2 q.2
def ObR (K : PySem.W.Frag) (L : Addr → Prop) (io : List Addr) (H : Hp) (a : Addr) : Ob → Prop
  | .lst l => ∃ xs, H a = some (.lst xs) ∧ VRs K L io H xs l
  | .dct l => ∃ kvs, H a = some (.dK kvs) ∧ PairR (VR K L io H) kvs l
  | .ins c fs => ∃ dx vs, H a = some (.ins (He.ga K c) dx vs) ∧ PairR (VR K L io H) vs fs
theorem PairR.mono {α : Type} {R R' : V → Dv → Prop} (h : ∀ v d, R v d → R' v d) : ∀ {l : List (α × V)} {m : List (α × Dv)}, PairR R l m → PairR R' l m
  | _, _, .nil => .nil
  | _, _, .cons r t => .cons ⟨r.1, h _ _ r.2⟩ (PairR.mono h t)
structure SR (K : PySem.W.Frag) (L : Addr → Prop) (io : List Addr) (H : Hp) (S : Sto) : Prop where
  len : io.length = S.length
  nd : io.Nodup
  sub : ∀ a ∈ io, L a
  dom : ∀ a, L a → H a ≠ none
  obj : ∀ (k : Nat) (a : Addr) (o : Ob), io[k]? = some a → S[k]? = some o → ObR K L io H a o
/-- the state of a frame: entered at L0, io0, H0 -/
structure FR (K : PySem.W.Frag) (L0 : Addr → Prop) (io0 : List Addr) (H0 : Hp) (L : Addr → Prop) (io : List Addr) (H : Hp) (g : St) (e : Env) (S : Sto) : Prop where
  st : SR K L io H S
  len : g.length = e.length
  va : ∀ (i : Nat) (d : Dv), e[i]? = some (.va d) → ∃ v, g[i]? = some (some v) ∧ VR K L io H v d
  own : ∀ (i : Nat) (o : Ob), e[i]? = some (.own o) → ∃ p, g[i]? = some (some (.ref p)) ∧ L p ∧ p ∉ io ∧ H0 p = none ∧ ObR K L io H p o
  inj : ∀ (i j : Nat) (p : Addr), i ≠ j → (∀ d, e[i]? ≠ some (.va d)) → (∀ d, e[j]? ≠ some (.va d)) → e[i]? ≠ some .no → e[j]? ≠ some .no → g[i]? = some (some (.ref p)) → g[j]? ≠ some (some (.ref p))
  en : Stp L0 io0 H0 L io H
  sub0 : ∀ a ∈ io0, L0 a
  dom0 : ∀ a, L0 a → H0 a ≠ none
section
variable {K : PySem.W.Frag} {L0 L L' : Addr → Prop} {io0 io io' : List Addr} {H0 H H' : Hp} {g : St} {e : Env} {S S' : Sto}
theorem FR.ow (f : FR K L0 io0 H0 L io H g e S) (i : Nat) (l : List Dv) (h : e[i]? = some (.ow l)) : ∃ p xs, g[i]? = some (some (.ref p)) ∧ L p ∧ p ∉ io ∧ H0 p = none ∧ H p = some (.lst xs) ∧ VRs K L io H xs l := by
  obtain ⟨p, h1, h2, h3, h4, xs, h5, h6⟩ := f.own i _ h
  exact ⟨p, xs, h1, h2, h3, h4, h5, h6⟩
theorem FR.od (f : FR K L0 io0 H0 L io H g e S) (i : Nat) (l : List (Key × Dv)) (h : e[i]? = some (.od l)) : ∃ p kvs, g[i]? = some (some (.ref p)) ∧ L p ∧ p ∉ io ∧ H0 p = none ∧ H p = some (.dK kvs) ∧ PairR (VR K L io H) kvs l := by
  obtain ⟨p, h1, h2, h3, h4, xs, h5, h6⟩ := f.own i _ h
  exact ⟨p, xs, h1, h2, h3, h4, h5, h6⟩
theorem FR.oi (f : FR K L0 io0 H0 L io H g e S) (i : Nat) (c : Str) (fs : List (Str × Dv)) (h : e[i]? = some (.oi c fs)) : ∃ p dx vs, g[i]? = some (some (.ref p)) ∧ L p ∧ p ∉ io ∧ H0 p = none ∧ H p = some (.ins (He.ga K c) dx vs) ∧ PairR (VR K L io H) vs fs := by
  obtain ⟨p, h1, h2, h3, h4, dx, vs, h5, h6⟩ := f.own i _ h
  exact ⟨p, dx, vs, h1, h2, h3, h4, h5, h6⟩
theorem ObR.has {a : Addr} {o : Ob} (h : ObR K L io H a o) : ∃ u, H a = some u := by
  cases o with
  | lst l => exact ⟨_, h.choose_spec.1⟩
  | dct l => exact ⟨_, h.choose_spec.1⟩
  | ins c fs => exact ⟨_, h.choose_spec.choose_spec.1⟩
theorem ObR.mono {a : Addr} {o : Ob} (h : ObR K L io H a o) (k : ∀ u, H a = some u → H' a = some u) (m : ∀ v d, VR K L io H v d → VR K L' io' H' v d) : ObR K L' io' H' a o := by
  cases o with
  | lst l =>
    obtain ⟨xs, e, r⟩ := h
    exact ⟨xs, k _ e, r.mono m⟩
  | dct l =>
    obtain ⟨xs, e, r⟩ := h
    exact ⟨xs, k _ e, r.mono m⟩
  | ins c fs =>
    obtain ⟨dx, xs, e, r⟩ := h
    exact ⟨dx, xs, k _ e, r.mono m⟩
/-- an expression was worked out: the frame stands -/
theorem FR.step (f : FR K L0 io0 H0 L io H g e S) (s : Stp L io H L' io' H') (st : SR K L' io' H' S') : FR K L0 io0 H0 L' io' H' g e S' where
  st := st
  len := f.len
  va := fun i d h => by
    obtain ⟨v, h1, h2⟩ := f.va i d h
    exact ⟨v, h1, h2.step s f.st.sub⟩
  own := fun i o h => by
    obtain ⟨p, h1, h2, h3, h4, h5⟩ := f.own i o h
    obtain ⟨u, h6⟩ := ObR.has (o := o) h5
    refine ⟨p, h1, s.up p h2, fun z => ?_, h4, ObR.mono (o := o) h5 (fun u h => s.keep p u h h3) fun v d r => r.step s f.st.sub⟩
    rcases s.hn p z with q | q
    · exact h3 q
    · rw [q] at h6; cases h6
  inj := f.inj
  en := f.en.trans s f.sub0
  sub0 := f.sub0
  dom0 := f.dom0
end
end DL
namespace DL
open PySem L2
/-- what comes of a piece: a value, an exception of an own class with its fields, or nothing that is known -/
inductive Res (α : Type) where
  | ok (a : α) (S : Sto) | ex (c : Str) (fs : List (Str × Dv)) (S : Sto) | no
abbrev DE := Env → Sto → Res Dv
abbrev DT := Env → Sto → Res Bool
abbrev DA := Env → Sto → Res (List Dv)
def ExR (K : PySem.W.Frag) (L : Addr → Prop) (io : List Addr) (H : Hp) (x : Option Addr) (fs : List (Str × Dv)) : Prop := ∃ a vs, x = some a ∧ ¬ L a ∧ H a = some (.xd vs) ∧ PairR (VR K L io H) vs fs
/-- the end of a piece -/
def Fin {α β : Type} (K : PySem.W.Frag) (W : WX) (R : (Addr → Prop) → List Addr → Hp → β → α → Prop) (g : St) (L : Addr → Prop) (io : List Addr) (H : Hp) (Q : β → Hp → Prop) : Res α → Prop
  | .ok d S' => ∀ (v : β) (H' : Hp) (L' : Addr → Prop) (io' : List Addr), Stp L io H L' io' H' → SR K L' io' H' S' → R L' io' H' v d → Q v H'
  | .ex c fs S' => ∀ (x : Option Addr) (H' : Hp) (L' : Addr → Prop) (io' : List Addr), Stp L io H L' io' H' → SR K L' io' H' S' → ExR K L' io' H' x fs → W (.ref (He.ga K c)) x g H'
  | .no => False
/-- the reading of a piece that works out f -/
def Rdg {α β : Type} (K : PySem.W.Frag) (W : WX) (R : (Addr → Prop) → List Addr → Hp → β → α → Prop) (f : Env → Sto → Res α) : St → Hp → (β → Hp → Prop) → Prop := fun g H Q =>
  ∃ (L0 : Addr → Prop) (io0 : List Addr) (H0 : Hp) (L : Addr → Prop) (io : List Addr) (e : Env) (S : Sto), FR K L0 io0 H0 L io H g e S ∧ Fin K W R g L io H Q (f e S)
def rd (K : PySem.W.Frag) (W : WX) (f : DE) : TE := Rdg K W (VR K) f
def rdt (K : PySem.W.Frag) (W : WX) (f : DT) : TT := Rdg K W (fun _ _ _ (v : Bool) d => v = d) f
def rda (K : PySem.W.Frag) (W : WX) (f : DA) : TA := Rdg K W (VRs K) f
abbrev QE (X : Cx) (W : WX) (e : Expr) (f : DE) : Prop := PE X e (rd X.K W f)
abbrev QT (X : Cx) (W : WX) (e : Expr) (f : DT) : Prop := PT X e (rdt X.K W f)
abbrev QA (X : Cx) (W : WX) (es : List Expr) (f : DA) : Prop := PA X es (rda X.K W f)
theorem pe_imp {X : Cx} {e : Expr} {t t' : TE} (h : PE X e t) (i : ∀ g H Q, t' g H Q → t g H Q) : PE X e t' := ⟨fun pins s g H Q I q => h.run pins s g H Q I (i g H Q q)⟩
theorem pt_imp {X : Cx} {e : Expr} {t t' : TT} (h : PT X e t) (i : ∀ g H Q, t' g H Q → t g H Q) : PT X e t' := ⟨fun pins s g H Q I q => h.run pins s g H Q I (i g H Q q)⟩
theorem pw_imp {X : Cx} {e : Expr} {t t' : TT} (h : PW X e t) (i : ∀ g H Q, t' g H Q → t g H Q) : PW X e t' := ⟨fun w pins s g H Q I q => h.run w pins s g H Q I (i g H Q q)⟩
theorem pa_imp {X : Cx} {e : List Expr} {t t' : TA} (h : PA X e t) (i : ∀ g H Q, t' g H Q → t g H Q) : PA X e t' := ⟨fun p pins s g H Q I q => h.run p pins s g H Q I (i g H Q q)⟩
theorem ps_imp {X : Cx} {e : Stmt} {t t' : TS} (h : PS X e t) (i : ∀ D g H, t' D g H → t D g H) : PS X e t' := ⟨fun pins s g H D I q => h.run pins s g H D I (i D g H q)⟩
theorem pss_imp {X : Cx} {e : List Stmt} {t t' : TS} (h : PSs X e t) (i : ∀ D g H, t' D g H → t D g H) : PSs X e t' := ⟨fun pins s g H D I q => h.run pins s g H D I (i D g H q)⟩
section
variable {K : PySem.W.Frag} {L L' : Addr → Prop} {io io' : List Addr} {H H' : Hp} {S S' : Sto} {p : Addr} {o : HO}
theorem SR.fresh (s : SR K L io H S) (hp : H p = none) : ¬ L p := fun z => s.dom p z hp
theorem Stp.alloc (hp : H p = none) : Stp L io H L io (upd H p o) := ⟨⟨[], by simp⟩, fun _ h => .inl h, fun _ h => .inl h, fun a u e _ => by rw [upd_ne (ne_of_none e hp)]; exact e, fun _ h => h⟩
theorem SR.alloc (s : SR K L io H S) (hp : H p = none) : SR K L io (upd H p o) S where
  len := s.len
  nd := s.nd
  sub := s.sub
  dom := fun a ha => by
    by_cases e : a = p
    · rw [e, upd_same]; exact fun z => nomatch z
    · rw [upd_ne e]; exact s.dom a ha
  obj := fun k a ob h1 h2 => (s.obj k a ob h1 h2).mono (fun u e => by rw [upd_ne (ne_of_none e hp)]; exact e) fun v d r => r.step (Stp.alloc hp) s.sub
theorem VR.newT {xs : List V} {ds : List Dv} (s : SR K L io H S) (hp : H p = none) (r : VRs K L io H xs ds) : VR K L io (upd H p (.tup xs)) (.ref p) (.tup ds) :=
  .tup (s.fresh hp) upd_same (r.step (Stp.alloc hp) s.sub)
theorem VR.newL {xs : List V} {ds : List Dv} (s : SR K L io H S) (hp : H p = none) (r : VRs K L io H xs ds) : VR K L io (upd H p (.lst xs)) (.ref p) (.lst ds) :=
  .lst (s.fresh hp) upd_same (r.step (Stp.alloc hp) s.sub)
end
def asL (S : Sto) : Dv → Option (List Dv)
  | .lst l => some l
  | .rol l => some l
  | .hdl k => match S[k]? with
    | some (.lst l) => some l
    | _ => none
  | _ => none
def asT : Dv → Option (List Dv)
  | .tup l => some l
  | _ => none
section
variable {K : PySem.W.Frag} {L : Addr → Prop} {io : List Addr} {H : Hp} {S : Sto} {v : V} {d : Dv} {l : List Dv}
theorem asL_ok (s : SR K L io H S) (r : VR K L io H v d) (h : asL S d = some l) : ∃ a xs, v = .ref a ∧ SqL K H a xs ∧ VRs K L io H xs l := by
  cases r with
  | lst nl e t => cases h; exact ⟨_, _, rfl, SqL.of e, t⟩
  | rol nl e t => cases h; exact ⟨_, _, rfl, .inl e, t⟩
  | rolK e t => cases h; exact ⟨_, _, rfl, e H, t⟩
  | hdl hk =>
    rename_i a k
    cases q : S[k]? with
    | none => simp [asL, q] at h
    | some o =>
      cases o with
      | lst l' =>
        simp [asL, q] at h
        subst h
        obtain ⟨xs, e, t⟩ := s.obj k a _ hk q
        exact ⟨a, xs, rfl, SqL.of e, t⟩
      | _ => simp [asL, q] at h
  | _ => cases h
theorem asT_ok (r : VR K L io H v d) (h : asT d = some l) : ∃ a xs, v = .ref a ∧ SqT K H a xs ∧ VRs K L io H xs l := by
  cases r with
  | tup nl e t => cases h; exact ⟨_, _, rfl, SqT.of e, t⟩
  | tupK e t => cases h; exact ⟨_, _, rfl, e.1 H, t⟩
  | _ => cases h
end
def vwO : Ob → Dv
  | .lst l => .lst l
  | .dct l => .dic l
  | .ins c fs => .obj c fs
def VX (K : PySem.W.Frag) (L : Addr → Prop) (io : List Addr) (H : Hp) (v : V) (d : Dv) : Prop := VR K L io H v d ∨ ∃ p o, v = .ref p ∧ d = vwO o ∧ p ∉ io ∧ ObR K L io H p o
def isV : Dv → Bool
  | .lst _ => true
  | .dic _ => true
  | .obj _ _ => true
  | _ => false
section
variable {K : PySem.W.Frag} {L L' : Addr → Prop} {io io' : List Addr} {H H' : Hp} {S : Sto} {v : V} {d : Dv} {l : List Dv}
theorem VX.vr (r : VX K L io H v d) (h : isV d = false) : VR K L io H v d := by
  rcases r with r | ⟨p, o, rfl, rfl, _, _⟩
  · exact r
  · cases o <;> cases h
theorem VX.step (r : VX K L io H v d) (s : Stp L io H L' io' H') (sub : ∀ x ∈ io, L x) : VX K L' io' H' v d := by
  rcases r with r | ⟨p, o, rfl, rfl, np, ob⟩
  · exact .inl (r.step s sub)
  · obtain ⟨u, hu⟩ := ob.has
    refine .inr ⟨p, o, rfl, rfl, fun z => ?_, ob.mono (fun u e => s.keep p u e np) fun v d r => r.step s sub⟩
    rcases s.hn p z with q | q
    · exact np q
    · rw [q] at hu; cases hu
theorem asL_x (s : SR K L io H S) (r : VX K L io H v d) (h : asL S d = some l) : ∃ a xs, v = .ref a ∧ SqL K H a xs ∧ VRs K L io H xs l := by
  rcases r with r | ⟨p, o, rfl, rfl, np, ob⟩
  · exact asL_ok s r h
  · cases o with
    | lst m => cases h; obtain ⟨xs, e, t⟩ := ob; exact ⟨p, xs, rfl, SqL.of e, t⟩
    | _ => cases h
theorem VX.lst (r : VX K L io H v (.lst l)) : ∃ p xs, v = .ref p ∧ H p = some (.lst xs) ∧ VRs K L io H xs l := by
  rcases r with r | ⟨p, o, rfl, e, np, ob⟩
  · cases r with
    | lst n h t => exact ⟨_, _, rfl, h, t⟩
  · cases o with
    | lst m => cases e; obtain ⟨xs, e, t⟩ := ob; exact ⟨p, xs, rfl, e, t⟩
    | _ => cases e
theorem asT_x (r : VX K L io H v d) (h : asT d = some l) : ∃ a xs, v = .ref a ∧ SqT K H a xs ∧ VRs K L io H xs l := asT_ok (r.vr (by cases d <;> first | rfl | cases h)) h
inductive VXs (K : PySem.W.Frag) (L : Addr → Prop) (io : List Addr) (H : Hp) : List V → List Dv → Prop
  | nil : VXs K L io H [] []
  | cons {v : V} {vs : List V} {d : Dv} {ds : List Dv} : VX K L io H v d → VXs K L io H vs ds → VXs K L io H (v :: vs) (d :: ds)
theorem VRs.x : ∀ {vs : List V} {l : List Dv}, VRs K L io H vs l → VXs K L io H vs l
  | _, _, .nil => .nil
  | _, _, .cons h t => .cons (.inl h) t.x
end
abbrev QX (X : Cx) (W : WX) (e : Expr) (f : DE) : Prop := PE X e (Rdg X.K W (VX X.K) f)
abbrev QXs (X : Cx) (W : WX) (es : List Expr) (f : DA) : Prop := PA X es (Rdg X.K W (VXs X.K) f)
def ofO {α : Type} : Option (α × Sto) → Res α
  | some (a, S) => .ok a S
  | none => .no
def bnd {α β : Type} (x : Res α) (k : α → Sto → Res β) : Res β := match x with
  | .ok a S => k a S
  | .ex c fs S => .ex c fs S
  | .no => .no
@[simp] theorem bnd_ok {α β : Type} (a : α) (S : Sto) (k : α → Sto → Res β) : bnd (.ok a S) k = k a S := rfl
@[simp] theorem ofO_some {α : Type} (a : α) (S : Sto) : ofO (some (a, S)) = .ok a S := rfl
section
variable {X : Cx} {W : WX} {pos : Pos}
def eVar (i : Nat) : DE := fun e S => match e[i]? with
  | some (.va d) => .ok d S
  | _ => .no
def eC (d : Dv) : DE := fun _ S => .ok d S
theorem rd_var {K : PySem.W.Frag} {i : Nat} {g : St} {H : Hp} {Q : VK} (h : rd K W (eVar i) g H Q) : tVar i g H Q := by
  obtain ⟨L0, io0, H0, L, io, e, S, fr, h⟩ := h
  cases q : e[i]? with
  | none => simp only [eVar, q] at h; exact h.elim
  | some sl =>
    cases sl with
    | va d' =>
      simp only [eVar, q] at h
      obtain ⟨v, h1, h2⟩ := fr.va i _ q
      exact ⟨v, h1, h v H L io (Stp.refl ..) fr.st h2⟩
    | _ => simp only [eVar, q] at h; exact h.elim
theorem qe_var (i : Nat) {x : Str} (hN : X.N[i]? = some x := by rfl) (hv : Vis X.env.scope x := by first | exact Or.inl rfl | exact Or.inr (Or.inl rfl) | exact Or.inr (Or.inr rfl)) (hd : (x == ("__debug__" : Str)) = false := by decide)
    (hcd : (x == ("__classdict__" : Str)) = false := by decide) : QE X W (.Name x pos) (eVar i) := pe_imp (pe_var hN hv hd hcd) fun _ _ _ h => rd_var h
theorem rd_C {K : PySem.W.Frag} {d : Dv} {v : V} {g : St} {H : Hp} {Q : VK} (r : ∀ L io, VR K L io H v d) (h : rd K W (eC d) g H Q) : tC v g H Q := by
  obtain ⟨L0, io0, H0, L, io, e, S, fr, h⟩ := h
  exact h v H L io (Stp.refl ..) fr.st (r _ _)
theorem qe_int {i : Int} {j} : QE X W (.Constant (.int i) j pos) (eC (.int i)) := pe_imp pe_int fun _ _ _ h => rd_C (fun _ _ => .int i) h
theorem qe_bl {b : Bool} {j} : QE X W (.Constant (.bool b) j pos) (eC (.bl b)) := pe_imp pe_bl fun _ _ _ h => rd_C (fun _ _ => .bl b) h
theorem qe_non {j} : QE X W (.Constant .none j pos) (eC .non) := pe_imp pe_non fun _ _ _ h => rd_C (fun _ _ => .non) h
theorem qe_str {x : Str} {j} : QE X W (.Constant (.str x) j pos) (eC (.str x)) := pe_imp pe_str fun _ _ _ h => rd_C (fun _ _ => .str x) h
/-- a module's name: a constant, a def, a class -/
theorem qe_glob {x : Str} {v : V} {d : Dv} {u : Value} (hm : X.mg x = some u) (r : RelV v u) (hr : ∀ L io H, VR X.K L io H v d) (hg : Gl X x := by rfl) (hd : (x == ("__debug__" : Str)) = false := by decide) : QE X W (.Name x pos) (eC d) :=
  pe_imp (pe_glob hg hm r hd) fun _ _ _ h => rd_C (fun _ _ => hr _ _ _) h
/-- a built-in class as a value -/
theorem qe_ty {x : Str} {n : String} (hm : X.mg x = none) (hv : bootBuiltins x = some (.type n)) (hg : Gl X x := by rfl) (hn : x ≠ "__name__" := by decide) (hd : (x == ("__debug__" : Str)) = false := by decide) : QE X W (.Name x pos) (eC (.ty n)) :=
  pe_imp (pe_bltn (v := .ty n) hg hm hv rfl hn hd) fun _ _ _ h => rd_C (fun _ _ => .ty n) h
end
section
variable {K : PySem.W.Frag} {W : WX} {α α' β β' γ : Type} {R : (Addr → Prop) → List Addr → Hp → β → α → Prop} {R' : (Addr → Prop) → List Addr → Hp → β' → α' → Prop}
theorem Fin.later {g : St} {L L1 : Addr → Prop} {io io1 : List Addr} {H H1 : Hp} {Q : β' → Hp → Prop} {r : Res α'} (h : Fin K W R' g L io H Q r) (s : Stp L io H L1 io1 H1) (sub : ∀ x ∈ io, L x) : Fin K W R' g L1 io1 H1 Q r := by
  cases r with
  | ok d S' => exact fun v H' L' io' s2 sr r2 => h v H' L' io' (s.trans s2 sub) sr r2
  | ex c fs S' => exact fun v H' L' io' s2 sr r2 => h v H' L' io' (s.trans s2 sub) sr r2
  | no => exact h
/-- the next part of a piece is worked out; the rest goes on -/
theorem Fin.bind {f : Env → Sto → Res α} {k : α → Sto → Res α'} {g : St} {L0 L : Addr → Prop} {io0 io : List Addr} {H0 H : Hp} {e : Env} {S : Sto} {Q : β' → Hp → Prop} {P : β → Hp → Prop}
    (fr : FR K L0 io0 H0 L io H g e S) (h : Fin K W R' g L io H Q (bnd (f e S) k))
    (n : ∀ (L1 : Addr → Prop) (io1 : List Addr) (H1 : Hp) (S1 : Sto) (a : α) (v : β), Stp L io H L1 io1 H1 → FR K L0 io0 H0 L1 io1 H1 g e S1 → R L1 io1 H1 v a → Fin K W R' g L1 io1 H1 Q (k a S1) → P v H1) : Rdg K W R f g H P := by
  refine ⟨L0, io0, H0, L, io, e, S, fr, ?_⟩
  cases hf : f e S with
  | ok a S1 =>
    rw [hf] at h
    intro v H1 L1 io1 s1 sr1 r1
    exact n L1 io1 H1 S1 a v s1 (fr.step s1 sr1) r1 (Fin.later (L := L) (io := io) (H := H) h s1 fr.st.sub)
  | ex c fs S1 =>
    rw [hf] at h
    exact h
  | no =>
    rw [hf] at h
    exact h
/-- the first part of a piece -/
theorem Rdg.bind {f : Env → Sto → Res α} {k : Env → α → Sto → Res α'} {g : St} {H : Hp} {Q : β' → Hp → Prop} {P : β → Hp → Prop}
    (h : Rdg K W R' (fun e S => bnd (f e S) (k e)) g H Q)
    (n : ∀ (L0 : Addr → Prop) (io0 : List Addr) (H0 : Hp) (L : Addr → Prop) (io : List Addr) (H1 : Hp) (e : Env) (S : Sto) (a : α) (v : β), FR K L0 io0 H0 L io H1 g e S → R L io H1 v a → Fin K W R' g L io H1 Q (k e a S) → P v H1) : Rdg K W R f g H P := by
  obtain ⟨L0, io0, H0, L, io, e, S, fr, h⟩ := h
  exact Fin.bind (k := k e) fr h fun L1 io1 H1 S1 a v _ fr1 r1 q => n L0 io0 H0 L1 io1 H1 e S1 a v fr1 r1 q
theorem Fin.ok1 {g : St} {L : Addr → Prop} {io : List Addr} {H : Hp} {Q : β' → Hp → Prop} {d : α'} {S : Sto} (h : Fin K W R' g L io H Q (.ok d S)) (sr : SR K L io H S) {v : β'} (r : R' L io H v d) : Q v H := h v H L io (Stp.refl ..) sr r
theorem Fin.rdg {f : Env → Sto → Res α'} {g : St} {L0 L : Addr → Prop} {io0 io : List Addr} {H0 H : Hp} {Q : β' → Hp → Prop} {e : Env} {S : Sto} (fr : FR K L0 io0 H0 L io H g e S) (h : Fin K W R' g L io H Q (f e S)) : Rdg K W R' f g H Q :=
  ⟨L0, io0, H0, L, io, e, S, fr, h⟩
end
theorem Rdg.weaken {K : PySem.W.Frag} {W : WX} {α β : Type} {R R' : (Addr → Prop) → List Addr → Hp → β → α → Prop} (h : ∀ L io H v d, R' L io H v d → R L io H v d) {f : Env → Sto → Res α} {g : St} {H : Hp} {Q : β → Hp → Prop} (q : Rdg K W R f g H Q) : Rdg K W R' f g H Q := by
  obtain ⟨L0, io0, H0, L, io, e, S, fr, q⟩ := q
  refine ⟨L0, io0, H0, L, io, e, S, fr, ?_⟩
  cases hf : f e S with
  | ok d S' => rw [hf] at q; exact fun v H' L' io' s sr r => q v H' L' io' s sr (h _ _ _ _ _ r)
  | ex c fs S' => rw [hf] at q; exact q
  | no => rw [hf] at q; exact q
/-- r serves what h gives -/
def OpS (K : PySem.W.Frag) (r : R2) (h : Sto → Dv → Dv → Option (Dv × Sto)) : Prop :=
  ∀ (L : Addr → Prop) (io : List Addr) (H : Hp) (S : Sto) (x y : V) (a b d : Dv) (S' : Sto) (Q : VK), SR K L io H S → VX K L io H x a → VX K L io H y b → h S a b = some (d, S') →
    (∀ (v : V) (H' : Hp) (L' : Addr → Prop) (io' : List Addr), Stp L io H L' io' H' → SR K L' io' H' S' → VR K L' io' H' v d → Q v H') → r x y H Q
theorem Fin.opt {α' β' : Type} {K : PySem.W.Frag} {W : WX} {R' : (Addr → Prop) → List Addr → Hp → β' → α' → Prop} {g : St} {L : Addr → Prop} {io : List Addr} {H : Hp} {Q : β' → Hp → Prop} {o : Option (α' × Sto)} (h : Fin K W R' g L io H Q (ofO o)) :
    ∃ d S', o = some (d, S') ∧ ∀ (v : β') (H' : Hp) (L' : Addr → Prop) (io' : List Addr), Stp L io H L' io' H' → SR K L' io' H' S' → R' L' io' H' v d → Q v H' := by
  cases o with
  | none => exact h.elim
  | some p => exact ⟨p.1, p.2, rfl, h⟩
def eBin (h : Sto → Dv → Dv → Option (Dv × Sto)) (f1 f2 : DE) : DE := fun e S => bnd (f1 e S) fun a S1 => bnd (f2 e S1) fun b S2 => ofO (h S2 a b)
theorem rd_bin {K : PySem.W.Frag} {W : WX} {r : R2} {h : Sto → Dv → Dv → Option (Dv × Sto)} {f1 f2 : DE} (ho : OpS K r h) {g : St} {H : Hp} {Q : VK} (q : rd K W (eBin h f1 f2) g H Q) : tOp r (Rdg K W (VX K) f1) (Rdg K W (VX K) f2) g H Q := by
  refine Rdg.bind (R := VX K) (k := fun e a S1 => bnd (f2 e S1) fun b S2 => ofO (h S2 a b)) q fun L0 io0 H0 L io H1 e S a v fr ra q => ?_
  refine Fin.bind (R := VX K) (k := fun b S2 => ofO (h S2 a b)) fr q fun L2 io2 H2 S2 b w s2 fr2 rb q => ?_
  obtain ⟨d, S3, h1, h2⟩ := q.opt
  exact ho L2 io2 H2 S2 v w a b d S3 Q fr2.st (ra.step s2 fr.st.sub) rb h1 h2
section
variable {X : Cx} {W : WX} {pos : Pos} {a b : Expr} {f f1 f2 : DE} {r : R2} {h : Sto → Dv → Dv → Option (Dv × Sto)}
theorem qx (ha : QE X W a f) : QX X W a f := pe_imp ha fun g H Q q => q.weaken fun _ _ _ _ _ r => .inl r
theorem qe_op {op : Operator} (ho : OpR X (binaryOp op) r) (hs : OpS X.K r h) (ha : QX X W a f1) (hb : QX X W b f2) : QE X W (.BinOp a op b pos) (eBin h f1 f2) := pe_imp (pe_op ho ha hb) fun _ _ _ q => rd_bin hs q
theorem qe_cmp {op : CmpOp} (ho : OpR X (compareOp op) r) (hs : OpS X.K r h) (ha : QX X W a f1) (hb : QX X W b f2) (hm : behindInMarks op b = false := by first | exact nomark _ | rfl) : QE X W (.Compare a [op] [b] pos) (eBin h f1 f2) := pe_imp (pe_cmpR ho ha hb hm) fun _ _ _ q => rd_bin hs q
/-- an expression whose value is a truth, as a test -/
def blD : Dv → Sto → Res Bool
  | .bl b, S => .ok b S
  | _, _ => .no
def tVal (f : DE) : DT := fun e S => bnd (f e S) blD
theorem rd_tval {K : PySem.W.Frag} {f : DE} {g : St} {H : Hp} {Q : Bool → Hp → Prop} (q : rdt K W (tVal f) g H Q) : tTest (rd K W f) g H Q := by
  refine Rdg.bind (R := VR K) (k := fun _ => blD) q fun L0 io0 H0 L io H1 e S a v fr ra q => ?_
  cases ra with
  | bl b => exact ⟨_, rfl, q.ok1 fr.st rfl⟩
  | _ => exact q.elim
theorem qt_cmp {op : CmpOp} (ho : OpR X (compareOp op) r) (hs : OpS X.K r h) (ha : QX X W a f1) (hb : QX X W b f2) (hm : behindInMarks op b = false := by first | exact nomark _ | rfl) : QT X W (.Compare a [op] [b] pos) (tVal (eBin h f1 f2)) :=
  pt_imp (pt_cmpR ho ha hb hm) fun g H Q q => by
    have z := rd_tval q
    exact (show tTest (tOp r (Rdg X.K W (VX X.K) f1) (Rdg X.K W (VX X.K) f2)) g H Q from rd_bin hs z)
end
end DL
namespace DL
open PySem L2
def pu2 (h : Dv → Dv → Option Dv) : Sto → Dv → Dv → Option (Dv × Sto) := fun S a b => (h a b).map fun d => (d, S)
theorem pu2_ok {h : Dv → Dv → Option Dv} {S S' : Sto} {a b d : Dv} (e : pu2 h S a b = some (d, S')) : h a b = some d ∧ S' = S := by
  unfold pu2 at e
  cases q : h a b with
  | none => rw [q] at e; cases e
  | some z => rw [q] at e; cases e; exact ⟨rfl, rfl⟩
def iop (g : Int → Int → Option Dv) : Dv → Dv → Option Dv
  | .int i, .int j => g i j
  | _, _ => none
/-- an operator of two ints -/
theorem ops_int {K : PySem.W.Frag} {C : Int → Int → Prop} {gv : Int → Int → V} {g : Int → Int → Option Dv} (hg : ∀ i j d, g i j = some d → C i j ∧ ∀ L io H, VR K L io H (gv i j) d) : OpS K (rI C gv) (pu2 (iop g)) := by
  intro L io H S x y a b d S' Q sr ra rb e0 q
  obtain ⟨e, rfl⟩ := pu2_ok e0
  clear e0
  cases a with
  | int i =>
    cases b with
    | int j =>
      cases ra.vr rfl; cases rb.vr rfl
      obtain ⟨hc, r⟩ := hg i j d e
      exact ⟨i, j, rfl, rfl, hc, q _ H L io (Stp.refl ..) sr (r _ _ _)⟩
    | _ => cases e
  | _ => cases e
theorem ops_int0 {K : PySem.W.Frag} {gv : Int → Int → V} {g : Int → Int → Dv} (hg : ∀ i j L io H, VR K L io H (gv i j) (g i j)) : OpS K (rI0 gv) (pu2 (iop fun i j => some (g i j))) := by
  intro L io H S x y a b d S' Q sr ra rb e0 q
  obtain ⟨e, rfl⟩ := pu2_ok e0
  clear e0
  cases a with
  | int i =>
    cases b with
    | int j =>
      cases ra.vr rfl; cases rb.vr rfl
      cases e
      exact ⟨i, j, rfl, rfl, q _ H L io (Stp.refl ..) sr (hg _ _ _ _ _)⟩
    | _ => cases e
  | _ => cases e
def subD : Dv → Dv → Option Dv := iop fun i j => some (.int (i - j))
def mulD : Dv → Dv → Option Dv := iop fun i j => if (-(2 ^ 64) < i ∧ i < 2 ^ 64) ∨ (-(2 ^ 64) < j ∧ j < 2 ^ 64) then some (.int (i * j)) else none
def modD : Dv → Dv → Option Dv := iop fun i j => if 0 < j then some (.int (i % j)) else none
def fdivD : Dv → Dv → Option Dv := iop fun i j => if 0 < j ∧ j < 1073741824 then some (.int (i / j)) else none
def ltD : Dv → Dv → Option Dv := iop fun i j => some (.bl (decide (i < j)))
def leD : Dv → Dv → Option Dv := iop fun i j => some (.bl (decide (i ≤ j)))
def gtD : Dv → Dv → Option Dv := iop fun i j => some (.bl (decide (j < i)))
def geD : Dv → Dv → Option Dv := iop fun i j => some (.bl (decide (j ≤ i)))
section
variable {X : Cx} {W : WX} {pos : Pos} {a b : Expr} {f1 f2 : DE}
theorem qe_sub (ha : QX X W a f1) (hb : QX X W b f2) : QE X W (.BinOp a .Sub b pos) (eBin (pu2 subD) f1 f2) := qe_op op_sub (ops_int0 fun _ _ _ _ _ => .int _) ha hb
theorem qe_mul (ha : QX X W a f1) (hb : QX X W b f2) : QE X W (.BinOp a .Mult b pos) (eBin (pu2 mulD) f1 f2) := qe_op op_mul (ops_int fun i j d e => by
  split at e
  · rename_i h; cases e; exact ⟨h, fun _ _ _ => .int _⟩
  · cases e) ha hb
theorem qe_mod (ha : QX X W a f1) (hb : QX X W b f2) : QE X W (.BinOp a .Mod b pos) (eBin (pu2 modD) f1 f2) := qe_op op_mod (ops_int fun i j d e => by
  split at e
  · rename_i h; cases e; exact ⟨h, fun _ _ _ => .int _⟩
  · cases e) ha hb
theorem qe_fdiv (ha : QX X W a f1) (hb : QX X W b f2) : QE X W (.BinOp a .FloorDiv b pos) (eBin (pu2 fdivD) f1 f2) := qe_op op_fdiv (ops_int fun i j d e => by
  split at e
  · rename_i h; cases e; exact ⟨h, fun _ _ _ => .int _⟩
  · cases e) ha hb
theorem qt_lt (ha : QX X W a f1) (hb : QX X W b f2) : QT X W (.Compare a [.Lt] [b] pos) (tVal (eBin (pu2 ltD) f1 f2)) := qt_cmp op_lt (ops_int0 fun _ _ _ _ _ => .bl _) ha hb
theorem qt_gt (ha : QX X W a f1) (hb : QX X W b f2) : QT X W (.Compare a [.Gt] [b] pos) (tVal (eBin (pu2 gtD) f1 f2)) := qt_cmp op_gt (ops_int0 fun _ _ _ _ _ => .bl _) ha hb
theorem qt_ge (ha : QX X W a f1) (hb : QX X W b f2) : QT X W (.Compare a [.GtE] [b] pos) (tVal (eBin (pu2 geD) f1 f2)) := qt_cmp op_ge (ops_int0 fun _ _ _ _ _ => .bl _) ha hb
end
def rAddA (K : PySem.W.Frag) : R2 := fun x y H Q => rI0 (fun i j => .int (i + j)) x y H Q ∨ (∃ i j, x = .str i ∧ y = .str j ∧ i.length + j.length ≤ sizeLine ∧ Q (.str (i ++ j)) H) ∨ rCatA K x y H Q ∨ rCat x y H Q
theorem op_addA {X : Cx} : OpR X (binaryOp .Add) (rAddA X.K) := op_add.or (op_add_str.or (op_catA.or op_cat))
def asH (S : Sto) : Dv → Option (List Dv)
  | .lst l => some l
  | .hdl k => match S[k]? with
    | some (.lst l) => some l
    | _ => none
  | _ => none
theorem asH_x {K : PySem.W.Frag} {L : Addr → Prop} {io : List Addr} {H : Hp} {S : Sto} {v : V} {d : Dv} {l : List Dv} (s : SR K L io H S) (r : VX K L io H v d) (h : asH S d = some l) : ∃ a xs, v = .ref a ∧ H a = some (.lst xs) ∧ VRs K L io H xs l := by
  cases d with
  | lst m => cases h; exact r.lst
  | hdl k =>
    cases q : S[k]? with
    | none => simp [asH, q] at h
    | some o =>
      cases o with
      | lst m =>
        simp [asH, q] at h
        subst h
        cases r.vr rfl with
        | hdl hk =>
          obtain ⟨xs, e, t⟩ := s.obj k _ _ hk q
          exact ⟨_, xs, rfl, e, t⟩
      | _ => simp [asH, q] at h
  | _ => cases h
def addD : Sto → Dv → Dv → Option (Dv × Sto)
  | S, .int i, .int j => some (.int (i + j), S)
  | S, .str x, .str y => if x.length + y.length ≤ sizeLine then some (.str (x ++ y), S) else none
  | S, .tup l, .tup m => if l.length + m.length ≤ sizeLine then some (.tup (l ++ m), S) else none
  | S, .lst l, b => (asH S b).bind fun m => if l.length + m.length ≤ sizeLine then some (.lst (l ++ m), S) else none
  | S, .hdl k, b => (asH S (.hdl k)).bind fun l => (asH S b).bind fun m => if l.length + m.length ≤ sizeLine then some (.lst (l ++ m), S) else none
  | _, _, _ => none
theorem VR.tupS {K : PySem.W.Frag} {L : Addr → Prop} {io : List Addr} {H : Hp} {v : V} {l : List Dv} (r : VR K L io H v (.tup l)) : ∃ a xs, v = .ref a ∧ SqT K H a xs ∧ VRs K L io H xs l := asT_ok r rfl
theorem VRs.nil_iff {K : PySem.W.Frag} {L : Addr → Prop} {io : List Addr} {H : Hp} {vs : List V} {l : List Dv} (r : VRs K L io H vs l) : vs = [] ↔ l = [] := by
  cases r <;> simp
theorem ops_add {K : PySem.W.Frag} : OpS K (rAddA K) addD := by
  intro L io H S x y a b d S' Q sr ra rb e q
  have lst : ∀ l, asH S a = some l → ((asH S b).bind fun m => if l.length + m.length ≤ sizeLine then some (Dv.lst (l ++ m), S) else none) = some (d, S') → rAddA K x y H Q := by
    intro l h1 e
    cases h : asH S b with
    | none => rw [h] at e; cases e
    | some m =>
      rw [h] at e
      simp only [Option.bind_some] at e
      split at e
      · rename_i hl
        cases e
        obtain ⟨p1, xs, rfl, e1, r1⟩ := asH_x sr ra h1
        obtain ⟨p2, ys, rfl, e2, r2⟩ := asH_x sr rb h
        exact .inr (.inr (.inr ⟨_, _, _, _, rfl, rfl, e1, e2, by rw [r1.len, r2.len]; exact hl, fun p hp => q _ _ L io (Stp.alloc hp) (sr.alloc hp) (VR.newL sr hp (r1.app r2))⟩))
      · cases e
  cases a with
  | int i =>
    cases b with
    | int j =>
      cases e; cases ra.vr rfl; cases rb.vr rfl
      exact .inl ⟨i, j, rfl, rfl, q _ H L io (Stp.refl ..) sr (.int _)⟩
    | _ => cases e
  | str i =>
    cases b with
    | str j =>
      simp only [addD] at e
      split at e
      · rename_i h
        cases e; cases ra.vr rfl; cases rb.vr rfl
        exact .inr (.inl ⟨i, j, rfl, rfl, h, q _ H L io (Stp.refl ..) sr (.str _)⟩)
      · cases e
    | _ => cases e
  | tup l =>
    cases b with
    | tup m =>
      simp only [addD] at e
      split at e
      · rename_i h
        cases e
        obtain ⟨p1, xs, rfl, s1, r1⟩ := (ra.vr rfl).tupS
        obtain ⟨p2, ys, rfl, s2, r2⟩ := (rb.vr rfl).tupS
        refine .inr (.inr (.inl ⟨p1, p2, xs, ys, rfl, rfl, s1, s2, by rw [r1.len, r2.len]; exact h, fun h0 => ?_, fun h0 h1 => ?_, fun _ _ p hp => ?_⟩))
        · have : l = [] := r1.nil_iff.mp h0
          subst this
          exact q _ H L io (Stp.refl ..) sr (rb.vr rfl)
        · have : m = [] := r2.nil_iff.mp h1
          subst this
          rw [List.append_nil] at q
          exact q _ H L io (Stp.refl ..) sr (ra.vr rfl)
        · exact q _ _ L io (Stp.alloc hp) (sr.alloc hp) (VR.newT sr hp (r1.app r2))
      · cases e
    | _ => cases e
  | lst l =>
    have e' : ((asH S b).bind fun m => if l.length + m.length ≤ sizeLine then some (Dv.lst (l ++ m), S) else none) = some (d, S') := by cases b <;> exact e
    exact lst l rfl e'
  | hdl k =>
    have e' : ((asH S (.hdl k)).bind fun l => (asH S b).bind fun m => if l.length + m.length ≤ sizeLine then some (Dv.lst (l ++ m), S) else none) = some (d, S') := by cases b <;> exact e
    cases h : asH S (.hdl k) with
    | none => rw [h] at e'; cases e'
    | some l => rw [h] at e'; exact lst l h e'
  | _ => cases e
theorem qe_add {X : Cx} {W : WX} {pos : Pos} {a b : Expr} {f1 f2 : DE} (ha : QX X W a f1) (hb : QX X W b f2) : QE X W (.BinOp a .Add b pos) (eBin addD f1 f2) := qe_op op_addA ops_add ha hb
mutual
def toP : Dv → Option PyData
  | .non => some .none
  | .bl b => some (.bool b)
  | .int i => some (.int i)
  | .str x => some (.str x)
  | .tup l => (toPs l).map .tuple
  | .lst l => (toPs l).map .list
  | .rol l => (toPs l).map .list
  | .dic _ => none
  | .obj _ _ => none
  | .hdl _ => none
  | .glo _ => none
  | .ty _ => none
def toPs : List Dv → Option (List PyData)
  | [] => some []
  | d :: l => (toP d).bind fun p => (toPs l).map fun ps => p :: ps
end
/-- handles as they stand now -/
def deref : Nat → Sto → Dv → Dv
  | 0, _, d => d
  | n + 1, S, .hdl k => match S[k]? with
    | some (.lst l) => .lst (l.map (deref n S))
    | some (.dct l) => .dic (l.map fun q => (q.1, deref n S q.2))
    | _ => .hdl k
  | n + 1, S, .tup l => .tup (l.map (deref n S))
  | n + 1, S, .lst l => .lst (l.map (deref n S))
  | n + 1, S, .rol l => .rol (l.map (deref n S))
  | n + 1, S, .dic l => .dic (l.map fun q => (q.1, deref n S q.2))
  | _ + 1, _, d => d
section
variable {K : PySem.W.Frag} {L : Addr → Prop} {io : List Addr} {H : Hp} {S : Sto}
mutual
theorem toP_ok : ∀ (d : Dv) (v : V) (p : PyData), VR K L io H v d → toP d = some p → Dp K H v p
  | .non, v, p, r, e => by cases r; cases e; exact .non
  | .bl b, v, p, r, e => by cases r; cases e; exact .bl b
  | .int b, v, p, r, e => by cases r; cases e; exact .int b
  | .str b, v, p, r, e => by cases r; cases e; exact .str b
  | .tup l, v, p, r, e => by
    obtain ⟨a, xs, rfl, s, t⟩ := r.tupS
    simp only [toP] at e
    cases q : toPs l with
    | none => rw [q] at e; cases e
    | some ps => rw [q] at e; cases e; exact .tup s (toPs_ok l xs ps t q)
  | .lst l, v, p, r, e => by
    simp only [toP] at e
    cases q : toPs l with
    | none => rw [q] at e; cases e
    | some ps =>
      rw [q] at e; cases e
      cases r with
      | lst n h t => exact .lst (SqL.of h) (toPs_ok l _ ps t q)
  | .rol l, v, p, r, e => by
    simp only [toP] at e
    cases q : toPs l with
    | none => rw [q] at e; cases e
    | some ps =>
      rw [q] at e; cases e
      cases r with
      | rol n h t => exact .lst (.inl h) (toPs_ok l _ ps t q)
      | rolK h t => exact .lst (h H) (toPs_ok l _ ps t q)
  | .dic k, v, p, r, e => by simp [toP] at e
  | .obj c k, v, p, r, e => by simp [toP] at e
  | .hdl k, v, p, r, e => by simp [toP] at e
  | .glo k, v, p, r, e => by simp [toP] at e
  | .ty k, v, p, r, e => by simp [toP] at e
theorem toPs_ok : ∀ (l : List Dv) (vs : List V) (ps : List PyData), VRs K L io H vs l → toPs l = some ps → DpAll K H vs ps
  | [], vs, ps, r, e => by cases r; simp [toPs] at e; subst e; exact .nil
  | d :: l, vs, ps, r, e => by
    cases r with
    | cons h t =>
      simp only [toPs] at e
      cases q : toP d with
      | none => rw [q] at e; cases e
      | some p =>
        rw [q] at e
        cases q2 : toPs l with
        | none => rw [q2] at e; cases e
        | some ps' =>
          rw [q2] at e
          cases e
          exact .cons (toP_ok d _ p h q) (toPs_ok l _ ps' t q2)
end
theorem deref_all (n : Nat) (ih : ∀ (d : Dv) (v : V) (p : PyData), VR K L io H v d → toP (deref n S d) = some p → Dp K H v p) : ∀ (l : List Dv) (vs : List V) (ps : List PyData), VRs K L io H vs l → toPs (l.map (deref n S)) = some ps → DpAll K H vs ps
  | [], vs, ps, r, e => by cases r; simp [toPs] at e; subst e; exact .nil
  | d :: l, vs, ps, r, e => by
    cases r with
    | cons h t =>
      simp only [toPs, List.map_cons] at e
      cases q : toP (deref n S d) with
      | none => rw [q] at e; cases e
      | some p =>
        rw [q] at e
        cases q2 : toPs (l.map (deref n S)) with
        | none => rw [q2] at e; cases e
        | some ps' =>
          rw [q2] at e
          cases e
          exact .cons (ih d _ p h q) (deref_all n ih l _ ps' t q2)
theorem deref_dp (sr : SR K L io H S) : ∀ (n : Nat) (d : Dv) (v : V) (p : PyData), VR K L io H v d → toP (deref n S d) = some p → Dp K H v p
  | 0, d, v, p, r, e => toP_ok d v p r e
  | n + 1, .tup l, v, p, r, e => by
    obtain ⟨a, xs, rfl, s, t⟩ := r.tupS
    simp only [deref, toP] at e
    cases q : toPs (l.map (deref n S)) with
    | none => rw [q] at e; cases e
    | some ps => rw [q] at e; cases e; exact .tup s (deref_all n (deref_dp sr n) l xs ps t q)
  | n + 1, .lst l, v, p, r, e => by
    simp only [deref, toP] at e
    cases q : toPs (l.map (deref n S)) with
    | none => rw [q] at e; cases e
    | some ps =>
      rw [q] at e; cases e
      cases r with
      | lst nl h t => exact .lst (SqL.of h) (deref_all n (deref_dp sr n) l _ ps t q)
  | n + 1, .rol l, v, p, r, e => by
    simp only [deref, toP] at e
    cases q : toPs (l.map (deref n S)) with
    | none => rw [q] at e; cases e
    | some ps =>
      rw [q] at e; cases e
      cases r with
      | rol nl h t => exact .lst (.inl h) (deref_all n (deref_dp sr n) l _ ps t q)
      | rolK h t => exact .lst (h H) (deref_all n (deref_dp sr n) l _ ps t q)
  | n + 1, .hdl k, v, p, r, e => by
    cases q0 : S[k]? with
    | none => simp only [deref, q0, toP] at e; cases e
    | some o =>
      cases o with
      | lst l =>
        simp only [deref, q0, toP] at e
        cases q : toPs (l.map (deref n S)) with
        | none => rw [q] at e; cases e
        | some ps =>
          rw [q] at e; cases e
          cases r with
          | hdl hk =>
            obtain ⟨xs, h, t⟩ := sr.obj k _ _ hk q0
            exact .lst (SqL.of h) (deref_all n (deref_dp sr n) l xs ps t q)
      | dct l => simp only [deref, q0, toP] at e; cases e
      | ins c fs => simp only [deref, q0, toP] at e; cases e
  | n + 1, .non, v, p, r, e => toP_ok _ v p r e
  | n + 1, .bl _, v, p, r, e => toP_ok _ v p r e
  | n + 1, .int _, v, p, r, e => toP_ok _ v p r e
  | n + 1, .str _, v, p, r, e => toP_ok _ v p r e
  | n + 1, .dic _, v, p, r, e => by simp [deref, toP] at e
  | n + 1, .obj _ _, v, p, r, e => toP_ok _ v p r e
  | n + 1, .glo _, v, p, r, e => toP_ok _ v p r e
  | n + 1, .ty _, v, p, r, e => toP_ok _ v p r e
/-- as a whole -/
def res (S : Sto) (d : Dv) : Dv := deref 40 S d
theorem res_dp (sr : SR K L io H S) {v : V} {d : Dv} {p : PyData} (r : VX K L io H v d) (e : toP (res S d) = some p) : Dp K H v p := by
  rcases r with r | ⟨a, o, rfl, rfl, np, ob⟩
  · exact deref_dp sr 40 d v p r e
  · cases o with
    | lst l =>
      simp only [vwO, res, deref, toP] at e
      cases q : toPs (l.map (deref 39 S)) with
      | none => rw [q] at e; cases e
      | some ps =>
        rw [q] at e; cases e
        obtain ⟨xs, h, t⟩ := ob
        exact .lst (SqL.of h) (deref_all 39 (deref_dp sr 39) l xs ps t q)
    | dct l => simp [vwO, res, deref, toP] at e
    | ins c fs => simp [vwO, res, deref, toP] at e
end
/-- two lists of unlike lengths -/
def lenNe : Option (List Dv) → Option (List Dv) → Bool
  | some l, some m => l.length != m.length
  | _, _ => false
def deepE (S : Sto) (a b : Dv) : Option Bool := (toP (res S a)).bind fun p => (toP (res S b)).bind fun q => if SeqAt.shaped p && SeqAt.shaped q then some (PyData.eqv p q) else none
def eqD (S : Sto) : Dv → Dv → Option Bool
  | .str x, .str y => some (decide (x = y))
  | .int x, .int y => some (decide (x = y))
  | .bl x, .bl y => some (decide (x = y))
  | .non, .non => some true
  | .non, .int _ => some false
  | .non, .bl _ => some false
  | .non, .str _ => some false
  | .int _, .non => some false
  | .int _, .str _ => some false
  | .bl _, .non => some false
  | .bl _, .str _ => some false
  | .str _, .non => some false
  | .str _, .int _ => some false
  | .str _, .bl _ => some false
  | a, b => if lenNe (asL S a) (asL S b) then some false else deepE S a b
def eqE : Sto → Dv → Dv → Option (Dv × Sto) := fun S a b => (eqD S a b).map fun c => (.bl c, S)
def neE : Sto → Dv → Dv → Option (Dv × Sto) := fun S a b => (eqD S a b).map fun c => (.bl (!c), S)
/-- two lists of unlike lengths -/
def rLen (K : PySem.W.Frag) (b : Bool) : R2 := fun x y H Q => ∃ p q xs ys, x = .ref p ∧ y = .ref q ∧ SqL K H p xs ∧ SqL K H q ys ∧ xs.length ≠ ys.length ∧ Q (.bl b) H
theorem op_eqLen {X : Cx} (hu : X.A.units < cLine) : OpR X (compareOp .Eq) (rLen X.K false) := by
  rintro pins s σ H x y v u Q I rx ry ⟨p, q, xs, ys, rfl, rfl, h1, h2, hl, z⟩
  cases rx; cases ry
  obtain ⟨its, r1, l1, _⟩ := I.list h1
  obtain ⟨its2, r2, l2, _⟩ := I.list h2
  refine SeqAt.eq_list_lengthsAt l1.isList l2.isList ?_ hu ⟨.bl _, H, I, rfl, z⟩
  rw [List.size_toArray, List.size_toArray, ← r1.length, ← r2.length]
  simpa using hl
theorem op_neLen {X : Cx} (hu : X.A.units < cLine) : OpR X (compareOp .NotEq) (rLen X.K true) := by
  rintro pins s σ H x y v u Q I rx ry ⟨p, q, xs, ys, rfl, rfl, h1, h2, hl, z⟩
  cases rx; cases ry
  obtain ⟨its, r1, l1, _⟩ := I.list h1
  obtain ⟨its2, r2, l2, _⟩ := I.list h2
  refine SeqAt.RcNeAt.lists_lengths l1.isList l2.isList ?_ hu _ _ _ _ ⟨.bl _, H, I, rfl, z⟩
  rw [List.size_toArray, List.size_toArray, ← r1.length, ← r2.length]
  simpa using hl
def rEqA (K : PySem.W.Frag) : R2 := fun x y H Q => (rEq x y H Q ∨ rEqD K x y H Q) ∨ rLen K false x y H Q
def rNeA (K : PySem.W.Frag) : R2 := fun x y H Q => (rNe x y H Q ∨ rNeD K x y H Q) ∨ rLen K true x y H Q
theorem eqD_deep {S : Sto} {a b : Dv} {c : Bool} (e : eqD S a b = some c) : (∃ x y : V, scal x y = true ∧ c = decide (x = y) ∧ ∀ (K : PySem.W.Frag) L io H v w, VX K L io H v a → VX K L io H w b → v = x ∧ w = y) ∨ (∃ p q, toP (res S a) = some p ∧ toP (res S b) = some q ∧ SeqAt.shaped p = true ∧ SeqAt.shaped q = true ∧ c = PyData.eqv p q) ∨ ∃ l m, asL S a = some l ∧ asL S b = some m ∧ l.length ≠ m.length ∧ c = false := by
  have deep : (if lenNe (asL S a) (asL S b) then some false else deepE S a b) = some c → (∃ p q, toP (res S a) = some p ∧ toP (res S b) = some q ∧ SeqAt.shaped p = true ∧ SeqAt.shaped q = true ∧ c = PyData.eqv p q) ∨ ∃ l m, asL S a = some l ∧ asL S b = some m ∧ l.length ≠ m.length ∧ c = false := by
    intro e
    split at e
    · rename_i hl
      cases e
      cases h1 : asL S a with
      | none => rw [h1] at hl; cases hl
      | some l =>
        cases h2 : asL S b with
        | none => rw [h1, h2] at hl; cases hl
        | some m => rw [h1, h2] at hl; exact .inr ⟨l, m, rfl, rfl, by simpa [lenNe] using hl, rfl⟩
    · unfold deepE at e
      cases h1 : toP (res S a) with
      | none => rw [h1] at e; cases e
      | some p =>
        cases h2 : toP (res S b) with
        | none => rw [h1, h2] at e; cases e
        | some q =>
          rw [h1, h2] at e
          simp only [Option.bind_some] at e
          split at e
          · rename_i hs
            simp only [Bool.and_eq_true] at hs
            cases e
            exact .inl ⟨p, q, rfl, rfl, hs.1, hs.2, rfl⟩
          · cases e
  cases a <;> cases b <;> first
    | exact .inr (deep e)
    | (refine .inl ⟨_, _, ?_, ?_, fun K L io H v w r1 r2 => by cases r1.vr rfl; cases r2.vr rfl; exact ⟨rfl, rfl⟩⟩
       · rfl
       · cases e; first
          | rfl
          | (simp))
theorem ops_eq {K : PySem.W.Frag} : OpS K (rEqA K) eqE := by
  intro L io H S x y a b d S' Q sr ra rb e q
  unfold eqE at e
  cases h : eqD S a b with
  | none => rw [h] at e; cases e
  | some c =>
    rw [h] at e; cases e
    have fin := q (.bl c) H L io (Stp.refl ..) sr (.bl c)
    rcases eqD_deep h with ⟨x', y', h1, rfl, h3⟩ | ⟨p, p', h1, h2, h3, h4, rfl⟩ | ⟨l, m, h1, h2, h3, rfl⟩
    · obtain ⟨rfl, rfl⟩ := h3 K L io H x y ra rb
      exact .inl (.inl ⟨h1, fin⟩)
    · exact .inl (.inr ⟨p, p', res_dp sr ra h1, res_dp sr rb h2, h3, h4, fin⟩)
    · obtain ⟨p, xs, rfl, s1, t1⟩ := asL_x sr ra h1
      obtain ⟨q, ys, rfl, s2, t2⟩ := asL_x sr rb h2
      exact .inr ⟨p, q, xs, ys, rfl, rfl, s1, s2, by rw [t1.len, t2.len]; exact h3, fin⟩
theorem ops_ne {K : PySem.W.Frag} : OpS K (rNeA K) neE := by
  intro L io H S x y a b d S' Q sr ra rb e q
  unfold neE at e
  cases h : eqD S a b with
  | none => rw [h] at e; cases e
  | some c =>
    rw [h] at e; cases e
    have fin := q (.bl (!c)) H L io (Stp.refl ..) sr (.bl _)
    rcases eqD_deep h with ⟨x', y', h1, rfl, h3⟩ | ⟨p, p', h1, h2, h3, h4, rfl⟩ | ⟨l, m, h1, h2, h3, rfl⟩
    · obtain ⟨rfl, rfl⟩ := h3 K L io H x y ra rb
      exact .inl (.inl ⟨h1, fin⟩)
    · exact .inl (.inr ⟨p, p', res_dp sr ra h1, res_dp sr rb h2, h3, h4, fin⟩)
    · obtain ⟨p, xs, rfl, s1, t1⟩ := asL_x sr ra h1
      obtain ⟨q, ys, rfl, s2, t2⟩ := asL_x sr rb h2
      exact .inr ⟨p, q, xs, ys, rfl, rfl, s1, s2, by rw [t1.len, t2.len]; exact h3, fin⟩
section
variable {X : Cx} {W : WX} {pos : Pos} {a b : Expr} {f1 f2 : DE} {k : Nat}
theorem op_eqA (hr : Room k X.A) : OpR X (compareOp .Eq) (rEqA X.K) := (op_eq.or (op_eqD hr.units)).or (op_eqLen hr.units0)
theorem op_neA (hr : Room k X.A) : OpR X (compareOp .NotEq) (rNeA X.K) := (op_ne.or (op_neD hr.units)).or (op_neLen hr.units0)
theorem qe_eq (hr : Room k X.A) (ha : QX X W a f1) (hb : QX X W b f2) : QE X W (.Compare a [.Eq] [b] pos) (eBin eqE f1 f2) := qe_cmp (op_eqA hr) ops_eq ha hb
theorem qe_ne (hr : Room k X.A) (ha : QX X W a f1) (hb : QX X W b f2) : QE X W (.Compare a [.NotEq] [b] pos) (eBin neE f1 f2) := qe_cmp (op_neA hr) ops_ne ha hb
theorem qt_eq (hr : Room k X.A) (ha : QX X W a f1) (hb : QX X W b f2) : QT X W (.Compare a [.Eq] [b] pos) (tVal (eBin eqE f1 f2)) := qt_cmp (op_eqA hr) ops_eq ha hb
theorem qt_ne (hr : Room k X.A) (ha : QX X W a f1) (hb : QX X W b f2) : QT X W (.Compare a [.NotEq] [b] pos) (tVal (eBin neE f1 f2)) := qt_cmp (op_neA hr) ops_ne ha hb
end
def flatD : Dv → Bool
  | .non => true
  | .bl _ => true
  | .int _ => true
  | .str _ => true
  | _ => false
def eqF : Dv → Dv → Bool
  | .non, .non => true
  | .bl a, .bl b => a == b
  | .bl a, .int b => (if a then 1 else 0) == b
  | .int a, .bl b => a == (if b then 1 else 0)
  | .int a, .int b => a == b
  | .str a, .str b => a == b
  | _, _ => false
def inF (x : Dv) (l : List Dv) : Bool := l.any fun y => eqF y x
def asQ (S : Sto) (d : Dv) : Option (List Dv) := match asT d with
  | some l => some l
  | none => asL S d
theorem asQ_x {K : PySem.W.Frag} {L : Addr → Prop} {io : List Addr} {H : Hp} {S : Sto} {v : V} {d : Dv} {l : List Dv} (s : SR K L io H S) (r : VX K L io H v d) (h : asQ S d = some l) : ∃ a xs, v = .ref a ∧ (SqL K H a xs ∨ SqT K H a xs) ∧ VRs K L io H xs l := by
  unfold asQ at h
  cases q : asT d with
  | some m =>
    rw [q] at h; cases h
    obtain ⟨a, xs, h1, h2, h3⟩ := asT_x r q
    exact ⟨a, xs, h1, .inr h2, h3⟩
  | none =>
    rw [q] at h
    obtain ⟨a, xs, h1, h2, h3⟩ := asL_x s r h
    exact ⟨a, xs, h1, .inl h2, h3⟩
def inD (neg : Bool) (S : Sto) (x y : Dv) : Option (Dv × Sto) := match y with
  | .str t => match x with
    | .str s => some (.bl (if neg then !(!(Builtin.Str.occurrences t s 0 t.length 1).isEmpty) else !(Builtin.Str.occurrences t s 0 t.length 1).isEmpty), S)
    | _ => none
  | _ => (asQ S y).bind fun l => if flatD x && l.all flatD then some (.bl (if neg then !inF x l else inF x l), S) else none
section
variable {K : PySem.W.Frag} {L : Addr → Prop} {io : List Addr} {H : Hp}
theorem flat_ok {v : V} {d : Dv} (r : VR K L io H v d) (h : flatD d = true) : flatV v = true := by
  cases r <;> first | rfl | cases h
theorem flats_ok : ∀ {vs : List V} {l : List Dv}, VRs K L io H vs l → l.all flatD = true → vs.all flatV = true
  | _, _, .nil, _ => rfl
  | _, _, .cons r t, h => by
    rw [List.all_cons, Bool.and_eq_true] at h
    rw [List.all_cons, flat_ok r h.1, flats_ok t h.2]
    rfl
theorem eqF_ok {v w : V} {a b : Dv} (r1 : VR K L io H v a) (r2 : VR K L io H w b) (h1 : flatD a = true) (h2 : flatD b = true) : eqV v w = eqF a b := by
  cases r1 <;> first | (cases h1; done) | (cases r2 <;> first | rfl | cases h2)
theorem inF_ok {v : V} {x : Dv} (r : VR K L io H v x) (hx : flatD x = true) : ∀ {vs : List V} {l : List Dv}, VRs K L io H vs l → l.all flatD = true → inV v vs = inF x l
  | _, _, .nil, _ => rfl
  | _, _, .cons q t, h => by
    rw [List.all_cons, Bool.and_eq_true] at h
    have ih := inF_ok r hx t h.2
    unfold inV inF at ih ⊢
    rw [List.any_cons, List.any_cons, ih, eqF_ok q r h.1 hx]
end
theorem ops_inN {K : PySem.W.Frag} (neg : Bool) : OpS K (fun x y H Q => rIn K neg x y H Q ∨ ∃ i j, x = .str i ∧ y = .str j ∧ Q (.bl (if neg then !(!(Builtin.Str.occurrences j i 0 j.length 1).isEmpty) else !(Builtin.Str.occurrences j i 0 j.length 1).isEmpty)) H) (inD neg) := by
  intro L io H S x y a b d S' Q sr ra rb e q
  have seq : ((asQ S b).bind fun l => if flatD a && l.all flatD then some (Dv.bl (if neg then !inF a l else inF a l), S) else none) = some (d, S') → rIn K neg x y H Q := by
    intro e
    cases h : asQ S b with
    | none => rw [h] at e; cases e
    | some l =>
      rw [h] at e
      simp only [Option.bind_some] at e
      split at e
      · rename_i hf
        rw [Bool.and_eq_true] at hf
        cases e
        obtain ⟨p, xs, rfl, hs, t⟩ := asQ_x sr rb h
        have ra' := ra.vr (by cases a <;> first | rfl | cases hf.1)
        refine ⟨p, xs, rfl, hs, flat_ok ra' hf.1, flats_ok t hf.2, ?_⟩
        rw [inF_ok ra' hf.1 t hf.2]
        exact q _ H L io (Stp.refl ..) sr (.bl _)
      · cases e
  cases b with
  | str t =>
    cases a with
    | str s =>
      cases e; cases ra.vr rfl; cases rb.vr rfl
      exact .inr ⟨s, t, rfl, rfl, q _ H L io (Stp.refl ..) sr (.bl _)⟩
    | _ => cases e
  | _ => exact .inl (seq e)
section
variable {X : Cx} {W : WX} {pos : Pos} {a b : Expr} {f1 f2 : DE}
theorem qe_in (ha : QX X W a f1) (hb : QX X W b f2) (hm : behindInMarks .In b = false := by rfl) : QE X W (.Compare a [.In] [b] pos) (eBin (inD false) f1 f2) := qe_cmp (op_in_seq.or op_in_str) (ops_inN false) ha hb hm
theorem qe_ni (ha : QX X W a f1) (hb : QX X W b f2) (hm : behindInMarks .NotIn b = false := by rfl) : QE X W (.Compare a [.NotIn] [b] pos) (eBin (inD true) f1 f2) := qe_cmp (op_notIn_seq.or op_notin_str) (ops_inN true) ha hb hm
theorem qt_in (ha : QX X W a f1) (hb : QX X W b f2) (hm : behindInMarks .In b = false := by rfl) : QT X W (.Compare a [.In] [b] pos) (tVal (eBin (inD false) f1 f2)) := qt_cmp (op_in_seq.or op_in_str) (ops_inN false) ha hb hm
theorem qt_ni (ha : QX X W a f1) (hb : QX X W b f2) (hm : behindInMarks .NotIn b = false := by rfl) : QT X W (.Compare a [.NotIn] [b] pos) (tVal (eBin (inD true) f1 f2)) := qt_cmp (op_notIn_seq.or op_notin_str) (ops_inN true) ha hb hm
end
def isD (neg : Bool) : Dv → Dv → Option Dv
  | a, .non => some (.bl (match a with
    | .non => !neg
    | _ => neg))
  | .bl x, .bl y => some (.bl (if neg then !decide (x = y) else decide (x = y)))
  | _, _ => none
theorem ops_is {K : PySem.W.Frag} : OpS K (fun x y H Q => (y = .non ∧ Q (.bl (decide (x = .non))) H) ∨ rIsB x y H Q) (pu2 (isD false)) := by
  intro L io H S x y a b d S' Q sr ra rb e q
  obtain ⟨e, rfl⟩ := pu2_ok e
  cases b with
  | non =>
    cases e; cases rb.vr rfl
    refine .inl ⟨rfl, ?_⟩
    have := q _ H L io (Stp.refl ..) sr (.bl _)
    rcases ra with ra | ⟨p, o, rfl, rfl, _⟩
    · cases ra <;> exact this
    · cases o <;> exact this
  | bl z =>
    cases a with
    | bl y =>
      cases e; cases ra.vr rfl; cases rb.vr rfl
      exact .inr ⟨y, z, rfl, rfl, q _ H L io (Stp.refl ..) sr (.bl _)⟩
    | _ => cases e
  | _ => cases a <;> cases e
theorem ops_isnot {K : PySem.W.Frag} : OpS K (fun x y H Q => (y = .non ∧ Q (.bl (!decide (x = .non))) H) ∨ rNotB x y H Q) (pu2 (isD true)) := by
  intro L io H S x y a b d S' Q sr ra rb e q
  obtain ⟨e, rfl⟩ := pu2_ok e
  cases b with
  | non =>
    cases e; cases rb.vr rfl
    refine .inl ⟨rfl, ?_⟩
    have := q _ H L io (Stp.refl ..) sr (.bl _)
    rcases ra with ra | ⟨p, o, rfl, rfl, _⟩
    · cases ra <;> exact this
    · cases o <;> exact this
  | bl z =>
    cases a with
    | bl y =>
      cases e; cases ra.vr rfl; cases rb.vr rfl
      exact .inr ⟨y, z, rfl, rfl, q _ H L io (Stp.refl ..) sr (.bl _)⟩
    | _ => cases e
  | _ => cases a <;> cases e
section
variable {X : Cx} {W : WX} {pos : Pos} {a b : Expr} {f1 f2 : DE}
theorem qt_is (ha : QX X W a f1) (hb : QX X W b f2) : QT X W (.Compare a [.Is] [b] pos) (tVal (eBin (pu2 (isD false)) f1 f2)) := qt_cmp (op_isN.or op_isBl) ops_is ha hb
theorem qt_isnot (ha : QX X W a f1) (hb : QX X W b f2) : QT X W (.Compare a [.IsNot] [b] pos) (tVal (eBin (pu2 (isD true)) f1 f2)) := qt_cmp (op_notN.or op_notBl) ops_isnot ha hb
end
end DL
namespace DL
open PySem L2
def truD (S : Sto) : Dv → Option Bool
  | .non => some false
  | .bl b => some b
  | .int i => some (i != 0)
  | .str x => if x.length ≤ sizeLine then some ((x.length : Int) != 0) else none
  | .tup l => some (!l.isEmpty)
  | .lst l => some (!l.isEmpty)
  | .rol l => some (!l.isEmpty)
  | .dic l => some (!l.isEmpty)
  | .hdl k => match S[k]? with
    | some (.lst l) => some (!l.isEmpty)
    | some (.dct l) => some (!l.isEmpty)
    | _ => none
  | _ => none
/-- a value's truth, of a locked dict, too -/
def TruW (K : PySem.W.Frag) (x : V) (H : Hp) (k : Bool) : Prop := TruV K x H k ∨ ∃ p kvs, x = .ref p ∧ Rd H p (.dK kvs) ∧ k = !kvs.isEmpty
theorem truW_ok {X : Cx} : TruR X (fun x H Q => ∃ k, TruW X.K x H k ∧ Q k H) := by
  intro pins s σ H x v Q I rx ⟨k, e, q⟩
  rcases e with e | ⟨p, kvs, rfl, hx, rfl⟩
  · exact tru_ok pins s σ H x v Q I rx ⟨k, e, q⟩
  · cases rx
    have hl := line63
    have hs : sizeLine = 16777216 := sizeLine_eq
    obtain ⟨hz, hS, vs, r, m⟩ := dk_rd I.hok hx
    have hlen : kvs.length = vs.length := Paired.length r
    exact wpAny_truthy_dict hS m (by omega) ⟨H, I.tok _, by rw [isEmpty_kv r]; exact q⟩
open PySem.Spec PyProof.Rows in
theorem pt_truthW {X : Cx} {a : Expr} {ta : TE} (ha : PE X a ta) (he : ∀ whole, isTrue a X.env whole = (do let v ← whole; standAt a.pos; holding [v] (truthy v))) :
    PT X a (fun σ H Q => ta σ H fun x H' => ∃ k, TruW X.K x H' k ∧ Q k H') := by
  refine ⟨fun pins s σ H Q I h => ?_⟩
  exact isTrue_plain (thn (ha.run pins s σ H _ I h) fun v s1 ⟨x, H1, I1, r1, q1⟩ => truW_ok pins s1 σ H1 x v Q I1 r1 q1) (he _)
section
variable {X : Cx} {a b : Expr} {ta tb : TE} {rest : List Expr} {pos : Pos}
def tOrW (K : PySem.W.Frag) (ta tb : TE) : TE := fun σ H Q => ta σ H fun x H1 => ∃ k, TruW K x H1 k ∧ if k = true then Q x H1 else tb σ H1 Q
def tAndW (K : PySem.W.Frag) (ta tb : TE) : TE := fun σ H Q => ta σ H fun x H1 => ∃ k, TruW K x H1 k ∧ if k = true then tb σ H1 Q else Q x H1
open PySem.Spec PyProof.Rows in
theorem pe_orW (ha : PE X a ta) (hb : PE X (.BoolOp .Or (b :: rest) pos) tb) : PE X (.BoolOp .Or (a :: b :: rest) pos) (tOrW X.K ta tb) := by
  refine ⟨fun pins s σ H Q I h => ?_⟩
  refine BoolOp_or (thn (ha.run pins s σ H _ I h) fun v s1 ⟨x, H1, I1, r1, q1⟩ => ?_)
  obtain ⟨k, e, q1⟩ := q1
  refine thn (truW_ok pins s1 σ H1 x v (fun c H2 => c = k ∧ H2 = H1) I1 r1 ⟨k, e, rfl, rfl⟩) fun c s2 hc => ?_
  obtain ⟨H2, I2, e1, e2⟩ := hc
  rw [e2] at I2
  rw [← e1] at q1
  cases c with
  | true => exact ⟨x, H1, I2, r1, q1⟩
  | false => exact hb.run pins s2 σ H1 Q I2 q1
open PySem.Spec PyProof.Rows in
theorem pe_andW (ha : PE X a ta) (hb : PE X (.BoolOp .And (b :: rest) pos) tb) : PE X (.BoolOp .And (a :: b :: rest) pos) (tAndW X.K ta tb) := by
  refine ⟨fun pins s σ H Q I h => ?_⟩
  refine BoolOp_and (thn (ha.run pins s σ H _ I h) fun v s1 ⟨x, H1, I1, r1, q1⟩ => ?_)
  obtain ⟨k, e, q1⟩ := q1
  refine thn (truW_ok pins s1 σ H1 x v (fun c H2 => c = k ∧ H2 = H1) I1 r1 ⟨k, e, rfl, rfl⟩) fun c s2 hc => ?_
  obtain ⟨H2, I2, e1, e2⟩ := hc
  rw [e2] at I2
  rw [← e1] at q1
  cases c with
  | true => exact hb.run pins s2 σ H1 Q I2 q1
  | false => exact ⟨x, H1, I2, r1, q1⟩
end
section
variable {K : PySem.W.Frag} {L : Addr → Prop} {io : List Addr} {H : Hp} {S : Sto}
theorem VRs.empty {vs : List V} {l : List Dv} (r : VRs K L io H vs l) : vs.isEmpty = l.isEmpty := by cases r <;> rfl
theorem PairR.len {α : Type} {R : V → Dv → Prop} : ∀ {l : List (α × V)} {m : List (α × Dv)}, PairR R l m → l.length = m.length
  | _, _, .nil => rfl
  | _, _, .cons _ t => by rw [List.length_cons, List.length_cons, PairR.len t]
theorem truD_ok0 (s : SR K L io H S) {v : V} {d : Dv} {b : Bool} (rx : VX K L io H v d) (hd : ∀ l, d ≠ .dic l) (e : truD S d = some b) : TruV K v H b := by
  have seq : ∀ {l : List Dv}, asL S d = some l → b = !l.isEmpty → TruV K v H b := fun h eb => by
    obtain ⟨a, xs, rfl, h1, h2⟩ := asL_x s rx h
    exact .inl ⟨xs, h1, by rw [h2.empty]; exact eb⟩
  cases d with
  | non => cases rx.vr rfl; cases e; rfl
  | bl => cases rx.vr rfl; cases e; rfl
  | int => cases rx.vr rfl; cases e; rfl
  | str x =>
    cases rx.vr rfl
    simp only [truD] at e
    split at e
    · rename_i h; cases e; exact ⟨h, rfl⟩
    · cases e
  | tup l =>
    obtain ⟨a, xs, rfl, h1, h2⟩ := (rx.vr rfl).tupS
    cases e
    exact .inr (.inl ⟨xs, h1, by rw [h2.empty]⟩)
  | lst l => cases e; exact seq rfl rfl
  | rol l => cases e; exact seq rfl rfl
  | dic l => exact absurd rfl (hd l)
  | hdl k =>
    have r := rx.vr rfl
    cases q : S[k]? with
    | none => simp [truD, q] at e
    | some o =>
      cases o with
      | lst l =>
        simp [truD, q] at e
        exact seq (l := l) (by simp [asL, q]) (by rw [e]; simp)
      | dct l =>
        simp [truD, q] at e
        cases r with
        | hdl hk =>
          obtain ⟨kvs, h1, h2⟩ := s.obj k _ _ hk q
          refine .inr (.inr ⟨kvs, h1, ?_⟩)
          have e2 : kvs.isEmpty = l.isEmpty := by cases h2 <;> rfl
          rw [e2, e]
          simp
      | ins => simp [truD, q] at e
  | _ => simp [truD] at e
theorem truD_ok (s : SR K L io H S) {v : V} {d : Dv} {b : Bool} (rx : VX K L io H v d) (e : truD S d = some b) : TruW K v H b := by
  cases d with
  | dic l =>
    cases e
    rcases rx with r | ⟨p, o, rfl, h, np, ob⟩
    · cases r with
      | dic n h t =>
        refine .inr ⟨_, _, rfl, h, ?_⟩
        cases t <;> rfl
    · cases o with
      | dct m =>
        cases h
        obtain ⟨kvs, h1, h2⟩ := ob
        refine .inr ⟨p, kvs, rfl, .inl h1, ?_⟩
        cases h2 <;> rfl
      | _ => cases h
  | _ => exact .inl (truD_ok0 s rx (fun l z => nomatch z) e)
end
def truR (a : Dv) (S : Sto) : Res Bool := ofO ((truD S a).map fun b => (b, S))
def tTru (f : DE) : DT := fun e S => bnd (f e S) truR
theorem map_ok {α β : Type} {o : Option α} {f : α → β} {b : β} (h : o.map f = some b) : ∃ a, o = some a ∧ f a = b := by
  cases o with
  | none => cases h
  | some a => exact ⟨a, rfl, Option.some.inj h⟩
section
variable {X : Cx} {W : WX} {pos : Pos} {a b c : Expr} {f f1 f2 : DE} {t1 t2 : DT} {rest : List Expr}
theorem qt_tru (ha : QX X W a f) (he : ∀ whole, isTrue a X.env whole = (do let v ← whole; standAt a.pos; holding [v] (truthy v)) := by intro _; rfl) : QT X W a (tTru f) :=
  pt_imp (pt_truthW ha he) fun g H Q q => by
    refine Rdg.bind (R := VX X.K) (k := fun _ => truR) q fun L0 io0 H0 L io H1 e S d v fr rv q => ?_
    obtain ⟨d, S', h1, h2⟩ := q.opt
    obtain ⟨b, h3, h4⟩ := map_ok h1
    cases h4
    exact ⟨_, truD_ok fr.st rv h3, h2 _ H1 L io (Stp.refl ..) fr.st rfl⟩
/-- and, or, not as tests -/
def tAnd' (t1 t2 : DT) : DT := fun e S => bnd (t1 e S) fun b S1 => if b then t2 e S1 else .ok false S1
def tOr' (t1 t2 : DT) : DT := fun e S => bnd (t1 e S) fun b S1 => if b then .ok true S1 else t2 e S1
def tNot' (t1 : DT) : DT := fun e S => bnd (t1 e S) fun b S1 => .ok (!b) S1
theorem rd_and {K : PySem.W.Frag} {g : St} {H : Hp} {Q : Bool → Hp → Prop} (q : rdt K W (tAnd' t1 t2) g H Q) : tAnd (rdt K W t1) (rdt K W t2) g H Q := by
  refine Rdg.bind (R := fun _ _ _ (v : Bool) d => v = d) (k := fun e b S1 => if b then t2 e S1 else .ok false S1) q fun L0 io0 H0 L io H1 e S d v fr rv q => ?_
  subst rv
  cases v with
  | true => exact (iteT (Fin.rdg fr q))
  | false => exact (iteF (q.ok1 fr.st rfl))
theorem rd_or {K : PySem.W.Frag} {g : St} {H : Hp} {Q : Bool → Hp → Prop} (q : rdt K W (tOr' t1 t2) g H Q) : tOr (rdt K W t1) (rdt K W t2) g H Q := by
  refine Rdg.bind (R := fun _ _ _ (v : Bool) d => v = d) (k := fun e b S1 => if b then .ok true S1 else t2 e S1) q fun L0 io0 H0 L io H1 e S d v fr rv q => ?_
  subst rv
  cases v with
  | true => exact (iteT (q.ok1 fr.st rfl))
  | false => exact (iteF (Fin.rdg fr q))
abbrev QW (X : Cx) (W : WX) (e : Expr) (f : DT) : Prop := PW X e (rdt X.K W f)
theorem qw_and1 (ha : QT X W a t1) : QW X W (.BoolOp .And [a] pos) t1 := pw_and1 ha
theorem qw_or1 (ha : QT X W a t1) : QW X W (.BoolOp .Or [a] pos) t1 := pw_or1 ha
theorem qw_and (ha : QT X W a t1) (hb : QW X W (.BoolOp .And (b :: rest) pos) t2) : QW X W (.BoolOp .And (a :: b :: rest) pos) (tAnd' t1 t2) := pw_imp (pw_and ha hb) fun _ _ _ q => rd_and q
theorem qw_or (ha : QT X W a t1) (hb : QW X W (.BoolOp .Or (b :: rest) pos) t2) : QW X W (.BoolOp .Or (a :: b :: rest) pos) (tOr' t1 t2) := pw_imp (pw_or ha hb) fun _ _ _ q => rd_or q
theorem qt_w (h : QW X W a t1) : QT X W a t1 := PW.pt h
theorem qt_not (ha : QT X W a t1) : QT X W (.UnaryOp .Not a pos) (tNot' t1) := pt_imp (pt_not ha) fun g H Q q => by
  refine Rdg.bind (R := fun _ _ _ (v : Bool) d => v = d) (k := fun e b S1 => .ok (!b) S1) q fun L0 io0 H0 L io H1 e S d v fr rv q => ?_
  subst rv
  exact q.ok1 fr.st rfl
/-- a if t else b -/
def eIf (t : DT) (f1 f2 : DE) : DE := fun e S => bnd (t e S) fun b S1 => if b then f1 e S1 else f2 e S1
theorem qe_if (hc : QT X W c t1) (ha : QE X W a f1) (hb : QE X W b f2) : QE X W (.IfExp c a b pos) (eIf t1 f1 f2) := pe_imp (pe_ifExp hc ha hb) fun g H Q q => by
  refine Rdg.bind (R := fun _ _ _ (v : Bool) d => v = d) (k := fun e b S1 => if b then f1 e S1 else f2 e S1) q fun L0 io0 H0 L io H1 e S d v fr rv q => ?_
  subst rv
  cases v with
  | true => exact (iteT (Fin.rdg fr q))
  | false => exact (iteF (Fin.rdg fr q))
/-- and, or, not as values -/
def eAnd (f1 f2 : DE) : DE := fun e S => bnd (f1 e S) fun a S1 => bnd (truR a S1) fun k S2 => if k then f2 e S2 else .ok a S2
def eOr (f1 f2 : DE) : DE := fun e S => bnd (f1 e S) fun a S1 => bnd (truR a S1) fun k S2 => if k then .ok a S2 else f2 e S2
def eNot (f1 : DE) : DE := fun e S => bnd (f1 e S) fun a S1 => bnd (truR a S1) fun k S2 => .ok (.bl (!k)) S2
theorem Fin.tru {α' β' : Type} {K : PySem.W.Frag} {R' : (Addr → Prop) → List Addr → Hp → β' → α' → Prop} {g : St} {L : Addr → Prop} {io : List Addr} {H : Hp} {Q : β' → Hp → Prop} {k : Bool → Sto → Res α'} {a : Dv} {v : V} {S : Sto} (h : Fin K W R' g L io H Q (bnd (truR a S) k)) (sr : SR K L io H S) (r : VR K L io H v a) :
    ∃ b, TruW K v H b ∧ Fin K W R' g L io H Q (k b S) := by
  unfold truR at h
  cases q : truD S a with
  | none => rw [q] at h; exact h.elim
  | some b => rw [q] at h; exact ⟨b, truD_ok sr (.inl r) q, h⟩
theorem qe_one {op} (h : QE X W a f) : QE X W (.BoolOp op [a] pos) f := pe_one h
theorem qe_and (ha : QE X W a f1) (hb : QE X W (.BoolOp .And (b :: rest) pos) f2) : QE X W (.BoolOp .And (a :: b :: rest) pos) (eAnd f1 f2) := pe_imp (pe_andW ha hb) fun g H Q q => by
  refine Rdg.bind (R := VR X.K) (k := fun e a S1 => bnd (truR a S1) fun k S2 => if k then f2 e S2 else .ok a S2) q fun L0 io0 H0 L io H1 e S d v fr rv q => ?_
  obtain ⟨k, h1, q⟩ := q.tru fr.st rv
  refine ⟨k, h1, ?_⟩
  cases k with
  | true => exact (iteT (Fin.rdg fr q))
  | false => exact (iteF (q.ok1 fr.st rv))
theorem qe_or (ha : QE X W a f1) (hb : QE X W (.BoolOp .Or (b :: rest) pos) f2) : QE X W (.BoolOp .Or (a :: b :: rest) pos) (eOr f1 f2) := pe_imp (pe_orW ha hb) fun g H Q q => by
  refine Rdg.bind (R := VR X.K) (k := fun e a S1 => bnd (truR a S1) fun k S2 => if k then .ok a S2 else f2 e S2) q fun L0 io0 H0 L io H1 e S d v fr rv q => ?_
  obtain ⟨k, h1, q⟩ := q.tru fr.st rv
  refine ⟨k, h1, ?_⟩
  cases k with
  | true => exact (iteT (q.ok1 fr.st rv))
  | false => exact (iteF (Fin.rdg fr q))
variable {es : List Expr} {fa : DA}
def aNil : DA := fun _ S => .ok [] S
def aCons (f : DE) (fa : DA) : DA := fun e S => bnd (f e S) fun d S1 => bnd (fa e S1) fun l S2 => .ok (d :: l) S2
theorem qa_nil : QA X W [] aNil := pa_imp pa_nil fun g H Q q => by
  obtain ⟨L0, io0, H0, L, io, e, S, fr, q⟩ := q
  exact q.ok1 fr.st .nil
theorem qa_cons (ha : QE X W a f) (hr : QA X W es fa) (hs : starEach (a :: es) X.env = (false, eval a X.env) :: starEach es X.env := by rfl) : QA X W (a :: es) (aCons f fa) := pa_imp (pa_cons ha hr hs) fun g H Q q => by
  refine Rdg.bind (R := VR X.K) (k := fun e d S1 => bnd (fa e S1) fun l S2 => .ok (d :: l) S2) q fun L0 io0 H0 L io H1 e S d v fr rv q => ?_
  refine Fin.bind (R := VRs X.K) (k := fun l S2 => .ok (d :: l) S2) fr q fun L2 io2 H2 S2 l w s2 fr2 rw2 q => ?_
  exact q.ok1 fr2.st (.cons (rv.step s2 fr.st.sub) rw2)
def tupR (l : List Dv) (S : Sto) : Res Dv := if l.length ≤ sizeLine then .ok (.tup l) S else .no
def lstR (l : List Dv) (S : Sto) : Res Dv := if l.length ≤ sizeLine then .ok (.lst l) S else .no
def eTup (fa : DA) : DE := fun e S => bnd (fa e S) tupR
def eLst (fa : DA) : DE := fun e S => bnd (fa e S) lstR
theorem qe_tup {x1} (h : QA X W es fa) : QE X W (.Tuple es x1 pos) (eTup fa) := pe_imp (pe_tup h) fun g H Q q => by
  refine Rdg.bind (R := VRs X.K) (k := fun e => tupR) q fun L0 io0 H0 L io H1 e S d v fr rv q => ?_
  unfold tupR at q
  split at q
  · rename_i hl
    exact ⟨by rw [rv.len]; exact hl, fun p hp => q _ _ L io (Stp.alloc hp) (fr.st.alloc hp) (VR.newT fr.st hp rv)⟩
  · exact q.elim
end
section
variable {X : Cx} {W : WX} {a : Expr} {es : List Expr} {f : DE} {fa : DA}
theorem qxs_nil : QXs X W [] aNil := pa_imp pa_nil fun g H Q q => by
  obtain ⟨L0, io0, H0, L, io, e, S, fr, h⟩ := q
  exact h [] H L io (Stp.refl ..) fr.st .nil
theorem VXs.step {K : PySem.W.Frag} {L L' : Addr → Prop} {io io' : List Addr} {H H' : Hp} : ∀ {vs : List V} {l : List Dv}, VXs K L io H vs l → Stp L io H L' io' H' → (∀ x ∈ io, L x) → VXs K L' io' H' vs l
  | _, _, .nil, _, _ => .nil
  | _, _, .cons h t, s, sub => .cons (h.step s sub) (t.step s sub)
theorem qxs_cons (ha : QX X W a f) (hr : QXs X W es fa) (hs : starEach (a :: es) X.env = (false, eval a X.env) :: starEach es X.env := by rfl) : QXs X W (a :: es) (aCons f fa) := pa_imp (pa_cons ha hr hs) fun g H Q q => by
  refine Rdg.bind (R := VX X.K) (k := fun e d S1 => bnd (fa e S1) fun l S2 => .ok (d :: l) S2) q fun L0 io0 H0 L io H1 e S d v fr rv q => ?_
  refine Fin.bind (R := VXs X.K) (k := fun l S2 => .ok (d :: l) S2) fr q fun L2 io2 H2 S2 l vs s2 fr2 rvs q => ?_
  exact q.ok1 fr2.st (.cons (rv.step s2 fr.st.sub) rvs)
end
def CaS (K : PySem.W.Frag) (r : List V → Hp → VK → Prop) (h : Sto → List Dv → Option (Dv × Sto)) : Prop :=
  ∀ (L : Addr → Prop) (io : List Addr) (H : Hp) (S : Sto) (xs : List V) (l : List Dv) (d : Dv) (S' : Sto) (Q : VK), SR K L io H S → VXs K L io H xs l → h S l = some (d, S') →
    (∀ (v : V) (H' : Hp) (L' : Addr → Prop) (io' : List Addr), Stp L io H L' io' H' → SR K L' io' H' S' → VR K L' io' H' v d → Q v H') → r xs H Q
def eCB (h : Sto → List Dv → Option (Dv × Sto)) (fa : DA) : DE := fun e S => bnd (fa e S) fun l S1 => ofO (h S1 l)
theorem rd_cb {K : PySem.W.Frag} {W : WX} {r : List V → Hp → VK → Prop} {h : Sto → List Dv → Option (Dv × Sto)} {fa : DA} (hc : CaS K r h) {g : St} {H : Hp} {Q : VK} (q : rd K W (eCB h fa) g H Q) : tCB r (Rdg K W (VXs K) fa) g H Q := by
  refine Rdg.bind (R := VXs K) (k := fun _ l S1 => ofO (h S1 l)) q fun L0 io0 H0 L io H1 e S l v fr rv q => ?_
  obtain ⟨d, S', h1, h2⟩ := q.opt
  exact hc L io H1 S v l d S' Q fr.st rv h1 h2
section
variable {X : Cx} {W : WX} {pos p : Pos} {e : Expr} {es : List Expr} {fa : DA} {r : List V → Hp → VK → Prop} {h : Sto → List Dv → Option (Dv × Sto)} {x : Str} {id T : String}
theorem qe_callB (hc : CallR X (.builtin id) r) (hs : CaS X.K r h) (hm : X.mg x = none) (hv : bootBuiltins x = some (.builtin id)) (ha : QXs X W (e :: es) fa) (hg : Gl X x := by rfl) (hn : x ≠ "__name__" := by decide) (hdb : (x == ("__debug__" : Str)) = false := by decide)
    (he : starEach (e :: es) X.env = (false, eval e X.env) :: starEach es X.env := by rfl) (hpl : (backTo pos (starEach es X.env)).any (·.1) = false := by rfl) : QE X W (.Call (.Name x p) (e :: es) [] pos) (eCB h fa) :=
  pe_imp (pe_callB hc hg hm hv ha hn hdb he hpl) fun _ _ _ q => rd_cb hs q
theorem qe_callTy (hc : CallR X (.type T) r) (hs : CaS X.K r h) (hm : X.mg x = none) (hv : bootBuiltins x = some (.type T)) (ha : QXs X W (e :: es) fa) (hg : Gl X x := by rfl) (hn : x ≠ "__name__" := by decide) (hdb : (x == ("__debug__" : Str)) = false := by decide)
    (he : starEach (e :: es) X.env = (false, eval e X.env) :: starEach es X.env := by rfl) (hpl : (backTo pos (starEach es X.env)).any (·.1) = false := by rfl) : QE X W (.Call (.Name x p) (e :: es) [] pos) (eCB h fa) :=
  pe_imp (pe_callTy hc hg hm hv ha hn hdb he hpl) fun _ _ _ q => rd_cb hs q
end
def lenD (S : Sto) : List Dv → Option (Dv × Sto)
  | [.str x] => if x.length ≤ sizeLine then some (.int x.length, S) else none
  | [d] => (asQ S d).map fun l => (.int l.length, S)
  | _ => none
theorem cas_len {K : PySem.W.Frag} : CaS K (fun xs H Q => ∃ x n, xs = [x] ∧ LenV K x H n ∧ Q (.int n) H) lenD := by
  intro L io H S xs l d S' Q sr rv e q
  cases rv with
  | nil => cases e
  | cons r t =>
    cases t with
    | cons r2 t2 => rename_i dd _ _ _ _; cases dd <;> cases e
    | nil =>
      rename_i v dd
      have seq : (asQ S dd).map (fun l => ((.int l.length : Dv), S)) = some (d, S') → ∃ x n, [v] = [x] ∧ LenV K x H n ∧ Q (.int n) H := by
        intro e
        obtain ⟨l, h1, h2⟩ := map_ok e
        cases h2
        obtain ⟨a, xs, rfl, hs, t⟩ := asQ_x sr r h1
        have fin := q (.int l.length) H L io (Stp.refl ..) sr (.int _)
        refine ⟨_, l.length, rfl, ?_, fin⟩
        rcases hs with hs | hs
        · exact .inl ⟨xs, hs, t.len.symm⟩
        · exact .inr ⟨xs, hs, t.len.symm⟩
      cases dd with
      | str x =>
        simp only [lenD] at e
        split at e
        · rename_i h
          cases e; cases r.vr rfl
          exact ⟨_, x.length, rfl, ⟨h, rfl⟩, q _ H L io (Stp.refl ..) sr (.int _)⟩
        · cases e
      | _ => exact seq e
/-- abs, int -/
def absD (S : Sto) : List Dv → Option (Dv × Sto)
  | [.int i] => some (.int (if i < 0 then -i else i), S)
  | _ => none
theorem cas_abs {K : PySem.W.Frag} : CaS K (fun xs H Q => ∃ i, xs = [.int i] ∧ Q (.int (if i < 0 then -i else i)) H) absD := by
  intro L io H S xs l d S' Q sr rv e q
  cases rv with
  | nil => cases e
  | cons r t =>
    cases t with
    | cons r2 t2 => rename_i dd _ _ _ _; cases dd <;> cases e
    | nil =>
      rename_i v dd
      cases dd with
      | int i => cases r.vr rfl; cases e; exact ⟨i, rfl, q _ H L io (Stp.refl ..) sr (.int _)⟩
      | _ => cases e
def intD (S : Sto) : List Dv → Option (Dv × Sto)
  | [.int i] => some (.int i, S)
  | [.bl b] => some (.int (if b then 1 else 0), S)
  | _ => none
theorem cas_int {K : PySem.W.Frag} : CaS K (fun xs H Q => (∃ i, xs = [.int i] ∧ Q (.int i) H) ∨ ∃ k, xs = [.bl k] ∧ Q (.int (if k then 1 else 0)) H) intD := by
  intro L io H S xs l d S' Q sr rv e q
  cases rv with
  | nil => cases e
  | cons r t =>
    cases t with
    | cons r2 t2 => rename_i dd _ _ _ _; cases dd <;> cases e
    | nil =>
      rename_i v dd
      cases dd with
      | int i => cases r.vr rfl; cases e; exact .inl ⟨i, rfl, q _ H L io (Stp.refl ..) sr (.int _)⟩
      | bl b => cases r.vr rfl; cases e; exact .inr ⟨b, rfl, q _ H L io (Stp.refl ..) sr (.int _)⟩
      | _ => cases e
/-- list(x), tuple(x) -/
def listD (S : Sto) : List Dv → Option (Dv × Sto)
  | [d] => (asQ S d).map fun l => (.lst l, S)
  | _ => none
theorem cas_list {K : PySem.W.Frag} : CaS K (fun xs H Q => ∃ p ys, xs = [.ref p] ∧ (SqL K H p ys ∨ SqT K H p ys) ∧ ∀ l, H l = none → Q (.ref l) (upd H l (.lst ys))) listD := by
  intro L io H S xs l d S' Q sr rv e q
  cases rv with
  | nil => cases e
  | cons r t =>
    cases t with
    | cons r2 t2 => cases e
    | nil =>
      obtain ⟨l, h1, h2⟩ := map_ok e
      cases h2
      obtain ⟨a, xs, rfl, hs, t⟩ := asQ_x sr r h1
      exact ⟨a, xs, rfl, hs, fun p hp => q _ _ L io (Stp.alloc hp) (sr.alloc hp) (VR.newL sr hp t)⟩
def tupleD (S : Sto) : List Dv → Option (Dv × Sto)
  | [d] => (asQ S d).map fun l => (.tup l, S)
  | _ => none
theorem cas_tuple {K : PySem.W.Frag} : CaS K (fun xs H Q => ∃ p ys, xs = [.ref p] ∧ ((SqL K H p ys ∧ ∀ l, H l = none → Q (.ref l) (upd H l (.tup ys))) ∨ (SqT K H p ys ∧ Q (.ref p) H))) tupleD := by
  intro L io H S xs l d S' Q sr rv e q
  cases rv with
  | nil => cases e
  | cons r t =>
    cases t with
    | cons r2 t2 => cases e
    | nil =>
      rename_i v dd
      obtain ⟨l, h1, h2⟩ := map_ok e
      cases h2
      unfold asQ at h1
      cases h : asT dd with
      | some m =>
        rw [h] at h1; cases h1
        obtain ⟨a, xs, rfl, hs, t⟩ := asT_x r h
        cases dd with
        | tup m' => cases h; exact ⟨a, xs, rfl, .inr ⟨hs, q _ H L io (Stp.refl ..) sr (r.vr rfl)⟩⟩
        | _ => cases h
      | none =>
        rw [h] at h1
        obtain ⟨a, xs, rfl, hs, t⟩ := asL_x sr r h1
        exact ⟨a, xs, rfl, .inl ⟨hs, fun p hp => q _ _ L io (Stp.alloc hp) (sr.alloc hp) (VR.newT sr hp t)⟩⟩
end DL
namespace DL
open PySem L2
def tyD (S : Sto) : Dv → Option String
  | .non => some "NoneType"
  | .bl _ => some "bool"
  | .int _ => some "int"
  | .str _ => some "str"
  | .tup _ => some "tuple"
  | .lst _ => some "list"
  | .rol _ => some "list"
  | .dic _ => some "dict"
  | .hdl k => match S[k]? with
    | some (.lst _) => some "list"
    | some (.dct _) => some "dict"
    | _ => none
  | _ => none
def tysOf : List Dv → Option (List String)
  | [] => some []
  | .ty c :: r => (tysOf r).map fun l => c :: l
  | _ => none
def kitS (t : String) : List String → Option Bool
  | [] => some false
  | c :: r => match kitB t c with
    | some true => some true
    | some false => kitS t r
    | none => none
def kitD (t : String) (cs : List Dv) : Option Bool := (tysOf cs).bind fun l => kitS t l
def isiD (S : Sto) : List Dv → Option (Dv × Sto)
  | [d, .ty c] => (tyD S d).bind fun t => (kitB t c).map fun b => (.bl b, S)
  | [d, .tup cs] => (tyD S d).bind fun t => (kitD t cs).map fun b => (.bl b, S)
  | _ => none
section
variable {K : PySem.W.Frag} {L : Addr → Prop} {io : List Addr} {H : Hp} {S : Sto}
theorem sqT_K {a : Addr} {xs : List V} (h : ∀ H', SqT K H' a xs) : ∃ o, K.lookup a = some o ∧ o.cls = .type "tuple" := by
  rcases h (fun _ => none) with (h | ⟨o, h⟩) | ⟨o, its, n, h1, h2, _⟩
  · cases h
  · cases h
  · exact ⟨o, h1, h2⟩
theorem sqL_K {a : Addr} {xs : List V} (h : ∀ H', SqL K H' a xs) : ∃ o, K.lookup a = some o ∧ o.cls = .type "list" := by
  rcases h (fun _ => none) with (h | ⟨o, h⟩) | ⟨o, its, n, h1, h2, _⟩
  · cases h
  · cases h
  · exact ⟨o, h1, h2⟩
theorem tyD_ok0 (s : SR K L io H S) {v : V} {d : Dv} {t : String} (r : VR K L io H v d) (e : tyD S d = some t) : TyX K H v (.type t) := by
  cases r with
  | non => cases e; exact .base .non
  | bl b => cases e; exact .base (.bl b)
  | int b => cases e; exact .base (.int b)
  | str b => cases e; exact .base (.str b)
  | tup n h _ => cases e; exact .base (.tup h)
  | tupK h _ => cases e; obtain ⟨o, h1, h2⟩ := sqT_K h.1; exact .kTuple h1 h2
  | lst n h _ => cases e; exact .base (.lst h)
  | rol n h _ =>
    cases e
    rcases h with h | ⟨o, h⟩
    · exact .base (.lst h)
    · exact .base (.frz h)
  | rolK h _ => cases e; obtain ⟨o, h1, h2⟩ := sqL_K h; exact .kList h1 h2
  | dic n h _ =>
    cases e
    rcases h with h | ⟨o, h⟩
    · exact .base (.dK h)
    · exact .fDict h
  | hdl hk =>
    rename_i a k
    cases q : S[k]? with
    | none => simp [tyD, q] at e
    | some o =>
      cases o with
      | lst l => simp [tyD, q] at e; subst e; obtain ⟨xs, h, _⟩ := s.obj k _ _ hk q; exact .base (.lst h)
      | dct l => simp [tyD, q] at e; subst e; obtain ⟨xs, h, _⟩ := s.obj k _ _ hk q; exact .base (.dK h)
      | ins c fs => simp [tyD, q] at e
  | _ => cases e
theorem tyD_ok (s : SR K L io H S) {v : V} {d : Dv} {t : String} (r : VX K L io H v d) (e : tyD S d = some t) : TyX K H v (.type t) := by
  rcases r with r | ⟨p, o, rfl, rfl, np, ob⟩
  · exact tyD_ok0 s r e
  · cases o with
    | lst l => cases e; obtain ⟨xs, h, _⟩ := ob; exact .base (.lst h)
    | dct l => cases e; obtain ⟨xs, h, _⟩ := ob; exact .base (.dK h)
    | ins c fs => cases e
theorem tysOf_ok : ∀ {cs : List Dv} {vs : List V} {l : List String}, VRs K L io H vs cs → tysOf cs = some l → Paired ClsV vs (l.map Value.type)
  | _, _, _, .nil, e => by cases e; exact .nil
  | _, _, l, .cons r rs, e => by
    cases r with
    | ty c =>
      simp only [tysOf] at e
      obtain ⟨l', h1, rfl⟩ := map_ok e
      exact .cons (.ty c) (tysOf_ok rs h1)
    | _ => cases e
theorem kitS_ok {t : String} : ∀ {l : List String} {b : Bool}, kitS t l = some b → PySem.W.kitAny K (.type t) (l.map Value.type) = some b
  | [], _, e => e
  | c :: l, b, e => by
    simp only [kitS] at e
    cases q : kitB t c with
    | none => rw [q] at e; cases e
    | some z =>
      rw [q] at e
      have hz := kit_ty (K := K) q
      simp only [List.map_cons, PySem.W.kitAny, hz]
      cases z with
      | true => exact e
      | false => exact kitS_ok e
end
def rIsiA (K : PySem.W.Frag) : List V → Hp → VK → Prop := fun xs H Q => rIsi K xs H Q ∨ rIsiT K xs H Q ∨ rIsiK K xs H Q
theorem CallR.or {X : Cx} {f : Value} {r r' : List V → Hp → VK → Prop} (h : CallR X f r) (h' : CallR X f r') : CallR X f (fun x H Q => r x H Q ∨ r' x H Q) := by
  intro pins s g H xs us Q I rv q
  rcases q with q | q
  · exact h pins s g H xs us Q I rv q
  · exact h' pins s g H xs us Q I rv q
theorem cas_isi {K : PySem.W.Frag} : CaS K (rIsiA K) isiD := by
  intro L io H S xs l d S' Q sr rv e q
  cases rv with
  | nil => cases e
  | cons r t =>
    cases t with
    | nil => cases e
    | cons r2 t2 =>
      cases t2 with
      | cons r3 t3 => rename_i d2 _ _ _ _; cases d2 <;> cases e
      | nil =>
        rename_i v dd w cc
        have r2x := r2
        clear r2
        have hcv : isV cc = false := by
          cases cc <;> first | rfl | (simp [isiD] at e)
        cases r2x.vr hcv with
        | ty c =>
          simp only [isiD] at e
          cases h : tyD S dd with
          | none => rw [h] at e; cases e
          | some ty =>
            rw [h] at e
            obtain ⟨b, h1, h2⟩ := map_ok e
            cases h2
            exact .inl ⟨v, .ty c, .type ty, .type c, b, rfl, .ty c, tyD_ok sr r h, kit_ty h1, q _ H L io (Stp.refl ..) sr (.bl _)⟩
        | tup n ht ts =>
          simp only [isiD] at e
          cases h : tyD S dd with
          | none => rw [h] at e; cases e
          | some ty =>
            rw [h] at e
            obtain ⟨b, h1, h2⟩ := map_ok e
            cases h2
            unfold kitD at h1
            rename_i ds
            cases h3 : tysOf ds with
            | none => rw [h3] at h1; cases h1
            | some l =>
              rw [h3] at h1
              exact .inr (.inl ⟨v, _, _, .type ty, _, b, rfl, ht, tysOf_ok ts h3, tyD_ok sr r h, kitS_ok h1, q _ H L io (Stp.refl ..) sr (.bl _)⟩)
        | tupK ht ts =>
          simp only [isiD] at e
          cases h : tyD S dd with
          | none => rw [h] at e; cases e
          | some ty =>
            rw [h] at e
            obtain ⟨b, h1, h2⟩ := map_ok e
            cases h2
            unfold kitD at h1
            rename_i a xs ds
            cases h3 : tysOf ds with
            | none => rw [h3] at h1; cases h1
            | some l =>
              rw [h3] at h1
              rcases ht.1 (fun _ => none) with (ht | ⟨o, ht⟩) | ⟨⟨oc, od, dt, sl⟩, its, n, e1, e2, e3, _, rv⟩
              · cases ht
              · cases ht
              · simp only at e2 e3
                subst e2 e3
                have ei := ClsV.all (tysOf_ok ts h3) rv
                exact .inr (.inr ⟨v, a, od, its.toList, n, sl, .type ty, b, rfl, by simpa using e1, tyD_ok sr r h, by rw [ei]; exact kitS_ok h1, q _ H L io (Stp.refl ..) sr (.bl _)⟩)
        | _ => cases e
section
variable {K : PySem.W.Frag} {L : Addr → Prop} {io : List Addr} {H : Hp} {S : Sto}
theorem VRs.atI {vs : List V} {l : List Dv} {i : Int} {d : Dv} (r : VRs K L io H vs l) (h : L2.atI l i = some d) : ∃ v, L2.atI vs i = some v ∧ VR K L io H v d := by
  unfold L2.atI at h ⊢
  rw [r.len]
  cases q : ixN l.length i with
  | none => rw [q] at h; cases h
  | some j =>
    rw [q] at h
    obtain ⟨v, h1, h2⟩ := r.get (i := j) h
    exact ⟨v, h1, h2⟩
def cutG {α : Type} (xs : List α) (lo hi : Option Int) : List α := (xs.drop (HT.sIx xs.length 0 lo)).take (HT.sIx xs.length xs.length hi - HT.sIx xs.length 0 lo)
theorem VRs.cut {vs : List V} {l : List Dv} {lo hi : Option Int} (r : VRs K L io H vs l) : VRs K L io H (cutV vs lo hi) (cutG l lo hi) := by
  unfold cutV cutG
  rw [r.len]
  exact (r.drop _).take _
end
def ixD (S : Sto) (d i : Dv) : Option (Dv × Sto) := match i with
  | .int i => (match d with
    | .str z => if z.length ≤ sizeLine then (atI z.cps.toList i).map fun c => (.str ⟨#[c]⟩, S) else none
    | _ => (asQ S d).bind fun l => (atI l i).map fun x => (x, S))
  | _ => none
theorem ops_ix {K : PySem.W.Frag} : OpS K (rIx K) ixD := by
  intro L io H S x y a b d S' Q sr ra rb e q
  cases b with
  | int i =>
    cases rb.vr rfl
    have seq : ((asQ S a).bind fun l => (atI l i).map fun x => (x, S)) = some (d, S') → rIx K x (.int i) H Q := by
      intro e
      cases h : asT a with
      | some l =>
        have h' : asQ S a = some l := by unfold asQ; rw [h]
        rw [h'] at e
        obtain ⟨z, h1, h2⟩ := map_ok e
        cases h2
        obtain ⟨p, xs, rfl, hs, t⟩ := asT_x ra h
        obtain ⟨v, h3, h4⟩ := t.atI h1
        exact .inr (.inl ⟨p, xs, i, v, rfl, rfl, hs, h3, q _ H L io (Stp.refl ..) sr h4⟩)
      | none =>
        have h' : asQ S a = asL S a := by unfold asQ; rw [h]
        rw [h'] at e
        cases h5 : asL S a with
        | none => rw [h5] at e; cases e
        | some l =>
          rw [h5] at e
          obtain ⟨z, h1, h2⟩ := map_ok e
          cases h2
          obtain ⟨p, xs, rfl, hs, t⟩ := asL_x sr ra h5
          obtain ⟨v, h3, h4⟩ := t.atI h1
          exact .inl ⟨p, xs, i, v, rfl, rfl, hs, h3, q _ H L io (Stp.refl ..) sr h4⟩
    cases a with
    | str z =>
      simp only [ixD] at e
      split at e
      · rename_i hz
        obtain ⟨c, h1, h2⟩ := map_ok e
        cases h2; cases ra.vr rfl
        exact .inr (.inr ⟨z, i, c, rfl, rfl, hz, h1, q _ H L io (Stp.refl ..) sr (.str _)⟩)
      · cases e
    | _ => exact seq e
  | _ => cases e
theorem qe_ix {X : Cx} {W : WX} {pos : Pos} {a b : Expr} {f1 f2 : DE} (ha : QX X W a f1) (hb : QX X W b f2) (hs : PlainIx b := by exact fun _ _ => rfl) : QE X W (.Subscript a b pos) (eBin ixD f1 f2) := pe_imp (pe_ix ix_seq ha hb hs) fun _ _ _ q => rd_bin ops_ix q
/-- a[lo:hi] -/
abbrev DO := Env → Sto → Res (Option Int)
def rdo (K : PySem.W.Frag) (W : WX) (f : DO) : TO := Rdg K W (fun _ _ _ (v : Option Int) d => v = d) f
abbrev QO (X : Cx) (W : WX) (e : Option Expr) (f : DO) : Prop := PO X e (rdo X.K W f)
theorem po_imp {X : Cx} {e : Option Expr} {t t' : TO} (h : PO X e t) (i : ∀ g H Q, t' g H Q → t g H Q) : PO X e t' := ⟨fun pins s g H Q I q => h.run pins s g H Q I (i g H Q q)⟩
def oNone : DO := fun _ S => .ok none S
def oInt : Dv → Sto → Res (Option Int)
  | .int i, S => .ok (some i) S
  | _, _ => .no
def oSome (f : DE) : DO := fun e S => bnd (f e S) oInt
def cutD (S : Sto) (d : Dv) (lo hi : Option Int) : Option (Dv × Sto) := match d with
  | .str z => if z.length ≤ sizeLine then some (.str (cutS z lo hi), S) else none
  | .tup l => some (.tup (cutG l lo hi), S)
  | _ => (asL S d).map fun l => (.lst (cutG l lo hi), S)
def eCut (f : DE) (lo hi : DO) : DE := fun e S => bnd (f e S) fun d S1 => bnd (lo e S1) fun l S2 => bnd (hi e S2) fun h S3 => ofO (cutD S3 d l h)
section
variable {X : Cx} {W : WX} {pos p2 : Pos} {a : Expr} {lo hi : Option Expr} {f : DE} {fl fh : DO}
theorem qo_none : QO X W none oNone := po_imp po_none fun g H Q q => by
  obtain ⟨L0, io0, H0, L, io, e, S, fr, q⟩ := q
  exact q.ok1 fr.st rfl
theorem qo_some (h : QE X W a f) : QO X W (some a) (oSome f) := po_imp (po_some h) fun g H Q q => by
  refine Rdg.bind (R := VR X.K) (k := fun _ => oInt) q fun L0 io0 H0 L io H1 e S a v fr ra q => ?_
  cases ra with
  | int b => exact ⟨_, rfl, q.ok1 fr.st rfl⟩
  | _ => exact q.elim
theorem cutG_whole {α : Type} {l : List α} {lo hi : Option Int} (h : HT.sIx l.length 0 lo = 0 ∧ HT.sIx l.length l.length hi = l.length) : cutG l lo hi = l := by
  unfold cutG
  rw [h.1, h.2]
  simp
theorem qe_cut (he : QX X W a f) (hl : QO X W lo fl) (hh : QO X W hi fh) : QE X W (.Subscript a (.Slice lo hi none p2) pos) (eCut f fl fh) := pe_imp (pe_slice (sl_list.or (sl_tupA.or sl_str)) he hl hh) fun g H Q q => by
  refine Rdg.bind (R := VX X.K) (k := fun e d S1 => bnd (fl e S1) fun l S2 => bnd (fh e S2) fun h S3 => ofO (cutD S3 d l h)) q fun L0 io0 H0 L io H1 e S d v fr rv q => ?_
  refine Fin.bind (R := fun _ _ _ (v : Option Int) d => v = d) (k := fun l S2 => bnd (fh e S2) fun h S3 => ofO (cutD S3 d l h)) fr q fun L2 io2 H2 S2 l w s2 fr2 rw2 q => ?_
  subst rw2
  refine Fin.bind (R := fun _ _ _ (v : Option Int) d => v = d) (k := fun h S3 => ofO (cutD S3 d w h)) fr2 q fun L3 io3 H3 S3 h w2 s3 fr3 rw3 q => ?_
  subst rw3
  have r := (rv.step s2 fr.st.sub).step s3 fr2.st.sub
  obtain ⟨d', S', h1, h2⟩ := q.opt
  have lst : (asL S3 d).map (fun l => (Dv.lst (cutG l w w2), S3)) = some (d', S') → rSlL X.K v w w2 H3 Q := by
    intro e
    obtain ⟨l, h3, h4⟩ := map_ok e
    cases h4
    obtain ⟨p, xs, rfl, hs, t⟩ := asL_x fr3.st r h3
    exact ⟨p, xs, rfl, hs, fun p hp => h2 _ _ L3 io3 (Stp.alloc hp) (fr3.st.alloc hp) (VR.newL fr3.st hp t.cut)⟩
  cases d with
  | str z =>
    simp only [cutD] at h1
    split at h1
    · rename_i hz
      cases h1; cases r.vr rfl
      exact .inr (.inr ⟨z, rfl, hz, h2 _ H3 L3 io3 (Stp.refl ..) fr3.st (.str _)⟩)
    · cases h1
  | tup l =>
    cases h1
    obtain ⟨p, xs, rfl, hs, t⟩ := (r.vr rfl).tupS
    refine .inr (.inl ⟨p, xs, rfl, hs, fun hw => ?_, fun hw p hp => ?_⟩)
    · rw [t.len] at hw
      rw [cutG_whole hw] at h2
      exact h2 _ H3 L3 io3 (Stp.refl ..) fr3.st (r.vr rfl)
    · exact h2 _ _ L3 io3 (Stp.alloc hp) (fr3.st.alloc hp) (VR.newT fr3.st hp t.cut)
  | _ => exact .inl (lst h1)
end
structure RoomG (k : Nat) (A : Around) : Prop where
  r : Room k A
  g : A.guards = some []
theorem RoomG.mono {j k : Nat} {A : Around} (h : RoomG k A) (hj : j ≤ k) : RoomG j A := ⟨h.r.mono hj, h.g⟩
theorem RoomG.deeper {k : Nat} {A : Around} (h : RoomG (k + 1) A) (v : PySem.Env) : RoomG k (A.deeper v) := ⟨h.r.deeper v, h.g⟩
theorem RoomG.in1 {k : Nat} {A : Around} (h : RoomG (k + 1) A) : RoomG k A.in1 := ⟨h.r.in1, h.g⟩
theorem RoomG.low {k : Nat} {A : Around} (h : RoomG (k + 1) A) : RoomG k A := h.mono (Nat.le_succ k)
/-- what a def promises: as FnOk, at calls without a guard; what it raises lies as L2.CX says -/
structure FnG (P : Program) (w : World) (K : PySem.W.Frag) (mg : Str → Option Value) (base : Heap) (k : Nat) (f : Addr) (fd : FuncData) (ps : List Str) (sp : Sp) : Prop where
  len : ∀ vs H Q E, sp vs H Q E → vs.length = ps.length
  run : ∀ (A : Around) (up : List PySem.Env) (s : Shared) (H : Hp) (args : Args) (us : List Value) (vs : List V) (Q : VK) (E : XK), RoomG k A → Env0 P w K mg base A up s H → BindsTo s fd args (ps.zip us) → Vals vs us → sp vs H Q E →
    codeAny (model P w) A (.call (.ref f) args) (CR (L2.CX P w) up P w H s Q E) s
theorem FnG.mono {P : Program} {w : World} {K : PySem.W.Frag} {mg : Str → Option Value} {base : Heap} {j k : Nat} {f : Addr} {fd : FuncData} {ps : List Str} {sp : Sp} (F : FnG P w K mg base j f fd ps sp) (h : j ≤ k) : FnG P w K mg base k f fd ps sp :=
  ⟨F.len, fun A up s H args us vs Q E hr => F.run A up s H args us vs Q E (hr.mono h)⟩
/-- a promise that nobody can ask -/
theorem FnG.never {P : Program} {w : World} {K : PySem.W.Frag} {mg : Str → Option Value} {base : Heap} {k : Nat} {f : Addr} {fd : FuncData} {ps : List Str} {sp : Sp} (h : ∀ vs H Q E, ¬ sp vs H Q E) : FnG P w K mg base k f fd ps sp :=
  ⟨fun vs H Q E z => (h vs H Q E z).elim, fun _ _ _ H _ _ vs Q E _ _ _ _ z => (h vs H Q E z).elim⟩
theorem takesW0 {X : Cx} : Takes X (fun _ _ _ _ => False) := fun _ _ ⟨_, _, _, _, _, _, _, _, _, _, _, _, _, _, _, _, z⟩ => z.elim
section
variable {X : Cx} {W : WX} {k : Nat} {f : Addr} {fd : FuncData} {ps : List Str} {sp : Sp} {dvs : List V} {ds : List Value}
/-- the callee of any rule runs -/
theorem run_g {pins : List (Addr × Obj)} {g : St} {H : Hp} {s : Shared} {Q : VK} {us : List Value} {vs : List V} (F : FnG X.prog X.w X.K X.mg X.base k f fd ps sp) (hr : RoomG k X.A) (hb : Binds X.K fd ps ds) (hd : Vals dvs ds) (tk : Takes X W)
    (I : Inv X pins g H s) (r : Vals vs us) (h : sp (vs ++ dvs) H Q (fun c d H' => W c d g H')) : wpAny (model X.prog X.w) X.A (call (.ref f) us) (EP X pins g Q) X.xe s := by
  have r2 := r.append hd
  have hl : (us ++ ds).length = ps.length := by
    rw [← r2.length]
    exact F.len _ _ _ _ h
  refine wpAny_call (codeAny_mono (F.run X.A X.stack s H ⟨us, []⟩ _ _ Q _ hr I.env0 (hb s us I.kIn hl) r2 h) fun rr s' z => ?_)
  match rr, z with
  | .error e, z => exact tk e s' (XE.of_call I (fun _ _ _ q => q) z)
  | .ok (.ret u), z => exact I.after z
  | .ok .next, z => exact z.elim
  | .ok .brk, z => exact z.elim
  | .ok .cont, z => exact z.elim
end
def Lx (L : Addr → Prop) (io : List Addr) : Addr → Prop := fun a => L a ∨ a ∈ io
abbrev DF := Sto → List Dv → Res Dv
/-- a def's promise: called with such data in such a store it gives g's answer -/
def spD (K : PySem.W.Frag) (g : DF) : Sp := fun vs H Q E => ∃ (L : Addr → Prop) (io : List Addr) (S : Sto) (l : List Dv), SR K L io H S ∧ VRs K L io H vs l ∧ match g S l with
  | .ok d S' => ∀ (v : V) (H' : Hp) (io' : List Addr), Stp L io H (Lx L io') io' H' → SR K (Lx L io') io' H' S' → VR K (Lx L io') io' H' v d → Q v H'
  | .ex c fs S' => ∀ (x : Option Addr) (H' : Hp) (io' : List Addr), Stp L io H (Lx L io') io' H' → SR K (Lx L io') io' H' S' → ExR K (Lx L io') io' H' x fs → E (.ref (He.ga K c)) x H'
  | .no => False
/-- the answer of none -/
def gNo : DF := fun _ _ => .no
theorem spD_no {K : PySem.W.Frag} : ∀ vs H Q E, ¬ spD K gNo vs H Q E := fun _ _ _ _ ⟨_, _, _, _, _, _, z⟩ => z
/-- a def's promise from what is wished behind it -/
theorem spD_fin {K : PySem.W.Frag} {W : WX} {g : DF} {st : St} {L : Addr → Prop} {io : List Addr} {H : Hp} {S : Sto} {vs : List V} {l : List Dv} {Q : VK} (sr : SR K L io H S) (r : VRs K L io H vs l) (q : Fin K W (VR K) st L io H Q (g S l)) : spD K g vs H Q (fun c d H' => W c d st H') := by
  refine ⟨L, io, S, l, sr, r, ?_⟩
  cases h : g S l with
  | ok d S' => rw [h] at q; exact fun v H' io' s sr r => q v H' _ io' s sr r
  | ex c fs S' => rw [h] at q; exact fun v H' io' s sr r => q v H' _ io' s sr r
  | no => rw [h] at q; exact q
/-- the def that the module's name x stands for answers as g; dl: the data of the defaults that a call without them takes -/
def FD (P : Program) (w : World) (K : PySem.W.Frag) (mg : Str → Option Value) (base : Heap) (k : Nat) (x : Str) (g : DF) : Prop :=
  ∃ (f : Addr) (fd : FuncData) (ps : List Str), FnG P w K mg base k f fd ps (spD K g) ∧ mg x = some (.ref f) ∧ f = He.ga K x ∧ PySem.W.keepIn K (.ref f) = true ∧ Binds K fd ps []
def eCall (g : DF) (fa : DA) : DE := fun e S => bnd (fa e S) fun l S1 => g S1 l
section
variable {X : Cx} {W : WX} {k i : Nat} {x : Str} {g : DF} {p pos : Pos} {e : Expr} {es : List Expr} {fa : DA}
theorem qe_call (F : FD X.prog X.w X.K X.mg X.base k x g) (hr : RoomG (k + 1) X.A) (tk : Takes X W) (ha : QA X W (e :: es) fa) (hg : Gl X x := by rfl) (hdb : (x == ("__debug__" : Str)) = false := by decide) (he : starEach (e :: es) X.env = (false, eval e X.env) :: starEach es X.env := by rfl) (hpl : (backTo pos (starEach es X.env)).any (·.1) = false := by rfl) :
    QE X W (.Call (.Name x p) (e :: es) [] pos) (eCall g fa) := by
  obtain ⟨f, fd, ps, F, hm, _, hk, hb⟩ := F
  refine ⟨fun pins s st H Q I q => wpAny_Call_Name_kw (ld_glob I hg hm ?_ hdb)⟩
  refine PySem.W.callWith_K (h₀ := X.base) I.ok.mod.kin hk (thn (ha.run pos pins s st H (fun vs H1 => spD X.K g vs H1 Q fun c d H' => W c d st H') I ?_) fun us s1 ⟨vs, H1, I1, r, q⟩ => ⟨I1.kIn, run_g F hr.low hb .nil tk I1 r (by rw [List.append_nil]; exact q)⟩) he hpl
  exact Rdg.bind (R := VRs X.K) (k := fun _ l S1 => g S1 l) q fun L0 io0 H0 L io H1 e S l v fr rv q => spD_fin fr.st rv q
/-- fits(..), fits a name of this def that stands for a def of the module; t: what the defs answer -/
def eCallL (t : Str → Option DF) (i : Nat) (fa : DA) : DE := fun e S => match e[i]? with
  | some (.va (.glo x)) => match t x with
    | some g => bnd (fa e S) fun l S1 => g S1 l
    | none => .no
  | _ => .no
theorem qe_callL {t : Str → Option DF} (i : Nat) (F : ∀ y g, t y = some g → FD X.prog X.w X.K X.mg X.base k y g) (hr : RoomG (k + 1) X.A) (tk : Takes X W) (ha : QA X W (e :: es) fa) (hN : X.N[i]? = some x := by rfl) (hv : Vis X.env.scope x := by first | exact Or.inl rfl | exact Or.inr (Or.inl rfl) | exact Or.inr (Or.inr rfl)) (hdb : (x == ("__debug__" : Str)) = false := by decide) (hcd : (x == ("__classdict__" : Str)) = false := by decide)
    (he : starEach (e :: es) X.env = (false, eval e X.env) :: starEach es X.env := by rfl) (hpl : (backTo pos (starEach es X.env)).any (·.1) = false := by rfl) :
    QE X W (.Call (.Name x p) (e :: es) [] pos) (eCallL t i fa) := by
  refine ⟨fun pins s st H Q I q => ?_⟩
  obtain ⟨L0, io0, H0, L, io, ev, S, fr, q⟩ := q
  cases h1 : ev[i]? with
  | none => simp only [eCallL, h1] at q; exact q.elim
  | some sl =>
    cases sl with
    | va d =>
      cases d with
      | glo y =>
        cases h2 : t y with
        | none => simp only [eCallL, h1, h2] at q; exact q.elim
        | some g =>
          simp only [eCallL, h1, h2] at q
          obtain ⟨f, fd, ps, F, hm, hf, hk, hb⟩ := F y g h2
          obtain ⟨v, g1, g2⟩ := fr.va i _ h1
          have ev2 : v = .ref f := by cases g2; rw [hf]
          subst ev2
          refine wpAny_Call_Name_kw (thn ((pe_var (pos := p) hN hv hdb hcd).run pins s st H (fun v H1 => v = .ref f ∧ H1 = H) I ⟨.ref f, g1, rfl, rfl⟩) fun u s1 ⟨v, H1, I1, r1, q1⟩ => ?_)
          obtain ⟨rfl, rfl⟩ := q1
          cases r1
          refine PySem.W.callWith_K (h₀ := X.base) I.ok.mod.kin hk (thn (ha.run pos pins s1 st H1 (fun vs H1 => spD X.K g vs H1 Q fun c d H' => W c d st H') I1 ?_) fun us s1 ⟨vs, H1, I1, r, q⟩ => ⟨I1.kIn, run_g F hr.low hb .nil tk I1 r (by rw [List.append_nil]; exact q)⟩) he hpl
          exact Fin.bind (R := VRs X.K) (k := fun l S1 => g S1 l) fr q fun L1 io1 H1 S1 l v s1 fr1 rv q => spD_fin fr1.st rv q
      | _ => simp only [eCallL, h1] at q; exact q.elim
    | _ => simp only [eCallL, h1] at q; exact q.elim
end
end DL
namespace DL
open PySem L2
structure Stw (L : Addr → Prop) (io : List Addr) (H : Hp) (L' : Addr → Prop) (io' : List Addr) (H' : Hp) : Prop where
  pre : ∃ more, io' = io ++ more
  new : ∀ a, L' a → L a ∨ H a = none
  keep : ∀ a o, H a = some o → ¬ L a → H' a = some o
section
variable {K : PySem.W.Frag} {L L1 L2 L' : Addr → Prop} {io io1 io2 io' : List Addr} {H H1 H2 H' : Hp} {S : Sto}
theorem Stw.refl (L : Addr → Prop) (io : List Addr) (H : Hp) : Stw L io H L io H := ⟨⟨[], by simp⟩, fun _ h => .inl h, fun _ _ h _ => h⟩
theorem Stp.stw (s : Stp L io H L' io' H') (sub : ∀ x ∈ io, L x) : Stw L io H L' io' H' := ⟨s.pre, s.new, fun a o h n => s.keep a o h fun z => n (sub a z)⟩
theorem Stw.trans (a : Stw L io H L1 io1 H1) (b : Stw L1 io1 H1 L2 io2 H2) : Stw L io H L2 io2 H2 where
  pre := by
    obtain ⟨m, rfl⟩ := a.pre
    obtain ⟨m1, rfl⟩ := b.pre
    exact ⟨m ++ m1, by simp⟩
  new := fun x h => by
    rcases b.new x h with h1 | h1
    · exact a.new x h1
    · cases e : H x with
      | none => exact .inr rfl
      | some o =>
        by_cases hl : L x
        · exact .inl hl
        · rw [a.keep x o e hl] at h1; cases h1
  keep := fun x o h n => b.keep x o (a.keep x o h n) fun z => by
    rcases a.new x z with q | q
    · exact n q
    · rw [q] at h; cases h
theorem Stw.on (s : Stw L io H L' io' H') : (∀ (k : Nat) (a : Addr), io[k]? = some a → io'[k]? = some a) ∧ (∀ a o, H a = some o → ¬ L a → H' a = some o ∧ ¬ L' a) := by
  refine ⟨fun k a h => ?_, fun a o h nl => ⟨s.keep a o h nl, fun z => ?_⟩⟩
  · obtain ⟨m, rfl⟩ := s.pre
    exact io_keep h
  · rcases s.new a z with q | q
    · exact nl q
    · rw [q] at h; cases h
theorem VR.stw {v : V} {d : Dv} (h : VR K L io H v d) (s : Stw L io H L' io' H') : VR K L' io' H' v d := VR.on s.on.1 s.on.2 h
theorem VRs.stw {v : List V} {d : List Dv} (h : VRs K L io H v d) (s : Stw L io H L' io' H') : VRs K L' io' H' v d := VRs.on s.on.1 s.on.2 h
/-- a volatile thing that is no handle's is changed -/
theorem SR.mut {p : Addr} {o : HO} (s : SR K L io H S) (hp : L p) (hn : p ∉ io) : SR K L io (upd H p o) S where
  len := s.len
  nd := s.nd
  sub := s.sub
  dom := fun a ha => by
    by_cases e : a = p
    · rw [e, upd_same]; exact fun z => nomatch z
    · rw [upd_ne e]; exact s.dom a ha
  obj := fun k a ob h1 h2 => (s.obj k a ob h1 h2).mono (fun u e => by rw [upd_ne (fun z => hn (by rw [← z]; exact List.mem_of_getElem? h1))]; exact e) fun v d r => r.mut hp
theorem Stw.mut {p : Addr} {o : HO} (hp : L p) : Stw L io H L io (upd H p o) := ⟨⟨[], by simp⟩, fun _ h => .inl h, fun a u e n => by rw [upd_ne (fun z => n (by rw [z]; exact hp))]; exact e⟩
/-- a new thing, volatile from now on -/
def Ly (L : Addr → Prop) (p : Addr) : Addr → Prop := fun a => L a ∨ a = p
def Lz (L : Addr → Prop) (p : Addr) : Addr → Prop := fun a => L a ∧ a ≠ p
theorem Stp.newV {p : Addr} {o : HO} (hp : H p = none) : Stp L io H (Ly L p) io (upd H p o) :=
  ⟨⟨[], by simp⟩, fun _ h => .inl h, fun a h => h.elim .inl fun e => .inr (by rw [e]; exact hp), fun a u e _ => by rw [upd_ne (ne_of_none e hp)]; exact e, fun _ h => .inl h⟩
theorem SR.newV {p : Addr} {o : HO} (s : SR K L io H S) (hp : H p = none) : SR K (Ly L p) io (upd H p o) S where
  len := s.len
  nd := s.nd
  sub := fun a h => .inl (s.sub a h)
  dom := fun a ha => by
    by_cases e : a = p
    · rw [e, upd_same]; exact fun z => nomatch z
    · rw [upd_ne e]; exact s.dom a (ha.elim id fun z => absurd z e)
  obj := fun k a ob h1 h2 => (s.obj k a ob h1 h2).mono (fun u e => by rw [upd_ne (ne_of_none e hp)]; exact e) fun v d r => r.step (Stp.newV hp) s.sub
/-- fewer volatile things -/
theorem SR.less (s : SR K L io H S) (hl : ∀ a, L' a → L a) (sub : ∀ a ∈ io, L' a) : SR K L' io H S :=
  ⟨s.len, s.nd, sub, fun a h => s.dom a (hl a h), fun k a o h1 h2 => (s.obj k a o h1 h2).mono (fun _ e => e) fun v d r => r.less hl⟩
end
/-- a new list l stands at p (H: the heap ahead of the piece) -/
def NewL (K : PySem.W.Frag) (H : Hp) (L' : Addr → Prop) (io' : List Addr) (H' : Hp) (v : V) (l : List Dv) : Prop := ∃ p xs, v = .ref p ∧ H p = none ∧ L' p ∧ p ∉ io' ∧ H' p = some (.lst xs) ∧ VRs K L' io' H' xs l
abbrev DL := Env → Sto → Res (List Dv)
def FinF (K : PySem.W.Frag) (W : WX) (g : St) (L : Addr → Prop) (io : List Addr) (H : Hp) (Q : V → Hp → Prop) : Res (List Dv) → Prop
  | .ok d S' => ∀ (v : V) (H' : Hp) (L' : Addr → Prop) (io' : List Addr), Stp L io H L' io' H' → SR K L' io' H' S' → NewL K H L' io' H' v d → Q v H'
  | .ex c fs S' => ∀ (x : Option Addr) (H' : Hp) (L' : Addr → Prop) (io' : List Addr), Stp L io H L' io' H' → SR K L' io' H' S' → ExR K L' io' H' x fs → W (.ref (He.ga K c)) x g H'
  | .no => False
def rdF (K : PySem.W.Frag) (W : WX) (f : DL) : TE := fun g H Q => ∃ (L0 : Addr → Prop) (io0 : List Addr) (H0 : Hp) (L : Addr → Prop) (io : List Addr) (e : Env) (S : Sto), FR K L0 io0 H0 L io H g e S ∧ FinF K W g L io H Q (f e S)
abbrev QF (X : Cx) (W : WX) (e : Expr) (f : DL) : Prop := PE X e (rdF X.K W f)
def eFrz (f : DL) : DE := fun e S => bnd (f e S) fun l S' => .ok (.lst l) S'
theorem rd_frz {K : PySem.W.Frag} {W : WX} {f : DL} {g : St} {H : Hp} {Q : VK} (q : rd K W (eFrz f) g H Q) : rdF K W f g H Q := by
  obtain ⟨L0, io0, H0, L, io, e, S, fr, q⟩ := q
  refine ⟨L0, io0, H0, L, io, e, S, fr, ?_⟩
  have q : Fin K W (VR K) g L io H Q (bnd (f e S) fun l S' => .ok (.lst l) S') := q
  cases hf : f e S with
  | no => rw [hf] at q; exact q
  | ex c fs S' => rw [hf] at q; exact q
  | ok l S' =>
    rw [hf] at q
    intro v H' L' io' s sr ⟨p, xs, hv, hp, lp, np, h1, h2⟩
    subst hv
    have hl : ∀ a, Lz L' p a → L' a := fun a z => z.1
    refine q _ H' (Lz L' p) io' ⟨s.pre, s.hn, fun a z => s.new a z.1, s.keep, fun a z => ⟨s.up a z, fun e => fr.st.dom a z (by rw [e]; exact hp)⟩⟩ (sr.less hl fun a ha => ⟨sr.sub a ha, fun e => np (by rw [← e]; exact ha)⟩) (.lst (fun z => z.2 rfl) h1 (h2.less hl))
theorem qe_frz {X : Cx} {W : WX} {a : Expr} {f : DL} (h : QF X W a f) : QE X W a (eFrz f) := pe_imp h fun g H Q q => rd_frz q
section
variable {X : Cx} {W : WX} {pos : Pos} {es : List Expr} {fa : DA}
def fLst (fa : DA) : DL := fun e S => bnd (fa e S) fun l S1 => if l.length ≤ sizeLine then .ok l S1 else .no
theorem FinF.bind {α β : Type} {K : PySem.W.Frag} {R : (Addr → Prop) → List Addr → Hp → β → α → Prop} {f : Env → Sto → Res α} {k : α → Sto → Res (List Dv)} {g : St} {L0 L : Addr → Prop} {io0 io : List Addr} {H0 H : Hp} {e : Env} {S : Sto} {Q : V → Hp → Prop} {P : β → Hp → Prop}
    (fr : FR K L0 io0 H0 L io H g e S) (h : FinF K W g L io H Q (bnd (f e S) k))
    (n : ∀ (L1 : Addr → Prop) (io1 : List Addr) (H1 : Hp) (S1 : Sto) (a : α) (v : β), Stp L io H L1 io1 H1 → FR K L0 io0 H0 L1 io1 H1 g e S1 → R L1 io1 H1 v a → FinF K W g L1 io1 H1 Q (k a S1) → P v H1) : Rdg K W R f g H P := by
  refine ⟨L0, io0, H0, L, io, e, S, fr, ?_⟩
  cases hf : f e S with
  | ok a S1 =>
    rw [hf] at h
    intro v H1 L1 io1 s1 sr1 r1
    have h : FinF K W g L io H Q (k a S1) := h
    refine n L1 io1 H1 S1 a v s1 (fr.step s1 sr1) r1 ?_
    cases hk : k a S1 with
    | ok l S2 =>
      rw [hk] at h
      intro v H' L' io' s2 sr2 ⟨p, xs, e1, e2, e3⟩
      refine h v H' L' io' (s1.trans s2 fr.st.sub) sr2 ⟨p, xs, e1, ?_, e3⟩
      rcases s1.back e2 with z | z
      · exact absurd e2 (sr1.dom p (s1.up p (fr.st.sub p z)))
      · exact z
    | ex c fs S2 =>
      rw [hk] at h
      exact fun v H' L' io' s2 sr r2 => h v H' L' io' (s1.trans s2 fr.st.sub) sr r2
    | no => rw [hk] at h; exact h
  | ex c fs S1 => rw [hf] at h; exact h
  | no => rw [hf] at h; exact h
theorem FinF.new {K : PySem.W.Frag} {g : St} {L : Addr → Prop} {io : List Addr} {H : Hp} {S : Sto} {Q : V → Hp → Prop} {l : List Dv} {xs : List V} (h : FinF K W g L io H Q (.ok l S)) (sr : SR K L io H S) (r : VRs K L io H xs l) : ∀ p, H p = none → Q (.ref p) (upd H p (.lst xs)) := fun p hp =>
  h _ _ (Ly L p) io (Stp.newV hp) (sr.newV hp) ⟨p, xs, rfl, hp, .inr rfl, fun z => sr.dom p (sr.sub p z) hp, upd_same, r.step (Stp.newV hp) sr.sub⟩
theorem qf_lst (h : QA X W es fa) : QF X W (.List es pos) (fLst fa) := pe_imp (pe_lst h) fun g H Q q => by
  obtain ⟨L0, io0, H0, L, io, e, S, fr, q⟩ := q
  refine FinF.bind (R := VRs X.K) (k := fun l S1 => if l.length ≤ sizeLine then .ok l S1 else .no) fr q fun L1 io1 H1 S1 l vs s1 fr1 r1 q => ?_
  split at q
  · rename_i hl
    exact ⟨by rw [r1.len]; exact hl, q.new fr1.st r1⟩
  · exact q.elim
end
end DL
namespace DL
open PySem L2
section
variable {K : PySem.W.Frag} {L0 L : Addr → Prop} {io0 io : List Addr} {H0 H : Hp} {g : St} {e : Env} {S : Sto} {i : Nat}
theorem set_get {α : Type} {l : List α} {i j : Nat} {a b : α} (h : (l.set i a)[j]? = some b) : (j = i ∧ b = a ∧ i < l.length) ∨ (j ≠ i ∧ l[j]? = some b) := by
  rw [List.getElem?_set] at h
  by_cases e : i = j
  · rw [if_pos e] at h
    split at h
    · cases h; exact .inl ⟨e.symm, rfl, by omega⟩
    · cases h
  · rw [if_neg e] at h
    exact .inr ⟨fun z => e z.symm, h⟩
theorem set_ne {α : Type} {l : List α} {i j : Nat} {a : α} (h : j ≠ i) : (l.set i a)[j]? = l[j]? := by
  rw [List.getElem?_set, if_neg (fun z => h z.symm)]
theorem set_at {α : Type} {l : List α} {i : Nat} {a : α} (h : i < l.length) : (l.set i a)[i]? = some a := by
  rw [List.getElem?_set, if_pos rfl, if_pos h]
/-- a slot gets another content, of which the frame's facts hold -/
theorem FR.setS (f : FR K L0 io0 H0 L io H g e S) (i : Nat) {x : Option V} {s : Sl}
    (hva : ∀ d, s = .va d → ∃ v, x = some v ∧ VR K L io H v d)
    (how : ∀ o, s = .own o → ∃ p, x = some (.ref p) ∧ L p ∧ p ∉ io ∧ H0 p = none ∧ ObR K L io H p o)
    (hinj : ∀ p, (∀ d, s ≠ .va d) → s ≠ .no → x = some (.ref p) → ∀ j, j ≠ i → (∀ d, e[j]? ≠ some (.va d)) → e[j]? ≠ some .no → g[j]? ≠ some (some (.ref p))) :
    FR K L0 io0 H0 L io H (g.set i x) (e.set i s) S where
  st := f.st
  len := by rw [List.length_set, List.length_set]; exact f.len
  va := fun j d h => by
    rcases set_get h with ⟨rfl, h1, h2⟩ | ⟨h1, h2⟩
    · obtain ⟨v, rfl, r⟩ := hva d h1.symm
      exact ⟨v, set_at (by rw [f.len]; exact h2), r⟩
    · obtain ⟨v, r1, r2⟩ := f.va j d h2
      exact ⟨v, by rw [set_ne h1]; exact r1, r2⟩
  own := fun j o h => by
    rcases set_get h with ⟨rfl, h1, h2⟩ | ⟨h1, h2⟩
    · obtain ⟨p, rfl, r⟩ := how o h1.symm
      exact ⟨p, set_at (by rw [f.len]; exact h2), r⟩
    · obtain ⟨p, r1, r2⟩ := f.own j o h2
      exact ⟨p, by rw [set_ne h1]; exact r1, r2⟩
  inj := fun j k p hjk v1 v2 n1 n2 h1 h2 => by
    have lg : ∀ {j : Nat} {z : Option V}, (g.set i x)[j]? = some z → j < e.length := fun {j z} h => by
      have := (List.getElem?_eq_some_iff.mp h).1
      rw [List.length_set, f.len] at this
      exact this
    by_cases ej : j = i
    · subst ej
      have ek : k ≠ j := fun z => hjk z.symm
      have hl := lg h1
      rw [set_at hl] at v1 n1
      rw [set_ne ek] at v2 n2 h2
      rw [set_at (by rw [f.len]; exact hl)] at h1
      exact hinj p (fun d z => v1 d (by rw [z])) (fun z => n1 (by rw [z])) (Option.some.inj h1) k ek v2 n2 h2
    · by_cases ek : k = i
      · subst ek
        have hl := lg h2
        rw [set_at hl] at v2 n2
        rw [set_ne ej] at v1 n1 h1
        rw [set_at (by rw [f.len]; exact hl)] at h2
        exact hinj p (fun d z => v2 d (by rw [z])) (fun z => n2 (by rw [z])) (Option.some.inj h2) j ej v1 n1 h1
      · rw [set_ne ej] at v1 n1 h1
        rw [set_ne ek] at v2 n2 h2
        exact f.inj j k p hjk v1 v2 n1 n2 h1 h2
  en := f.en
  sub0 := f.sub0
  dom0 := f.dom0
theorem FR.setV (f : FR K L0 io0 H0 L io H g e S) (i : Nat) {v : V} {d : Dv} (r : VR K L io H v d) : FR K L0 io0 H0 L io H (g.set i (some v)) (e.set i (.va d)) S :=
  f.setS i (fun d' h => by cases h; exact ⟨v, rfl, r⟩) (fun l h => by cases h) (fun p h => absurd rfl (h d))
theorem FR.setN (f : FR K L0 io0 H0 L io H g e S) (i : Nat) (x : Option V) : FR K L0 io0 H0 L io H (g.set i x) (e.set i .no) S :=
  f.setS i (fun d' h => by cases h) (fun l h => by cases h) (fun p _ h => absurd rfl h)
/-- a volatile thing that no slot of its own holds is changed -/
theorem FR.mutD (f : FR K L0 io0 H0 L io H g e S) {p : Addr} {o : HO} (lp : L p) (np : p ∉ io) (h0 : H0 p = none)
    (hne : ∀ (i : Nat) (q : Addr), (∀ d, e[i]? ≠ some (.va d)) → e[i]? ≠ some .no → e[i]? ≠ none → g[i]? = some (some (.ref q)) → q ≠ p) : FR K L0 io0 H0 L io (upd H p o) g e S where
  st := f.st.mut lp np
  len := f.len
  va := fun i d h => by
    obtain ⟨v, h1, h2⟩ := f.va i d h
    exact ⟨v, h1, h2.mut lp⟩
  own := fun i o h => by
    obtain ⟨q, h1, h2, h3, h4, h5⟩ := f.own i o h
    have : q ≠ p := hne i q (by rw [h]; intro d z; cases z) (by rw [h]; intro z; cases z) (by rw [h]; intro z; cases z) h1
    exact ⟨q, h1, h2, h3, h4, ObR.mono (o := o) h5 (fun u h => by rw [upd_ne this]; exact h) fun v d r => r.mut lp⟩
  inj := f.inj
  en := ⟨f.en.pre, f.en.hn, f.en.new, fun a u h n => by rw [upd_ne (ne_of_none h h0)]; exact f.en.keep a u h n, f.en.up⟩
  sub0 := f.sub0
  dom0 := f.dom0
/-- what a slot of its own holds stands in the heap -/
theorem FR.ownAt (f : FR K L0 io0 H0 L io H g e S) {i : Nat} {q : Addr} (h1 : ∀ d, e[i]? ≠ some (.va d)) (h2 : e[i]? ≠ some .no) (h3 : e[i]? ≠ none) (hg : g[i]? = some (some (.ref q))) : ∃ o, H q = some o ∧ L q := by
  cases h : e[i]? with
  | none => exact absurd h h3
  | some s =>
    cases s with
    | no => exact absurd h h2
    | va d => exact absurd h (h1 d)
    | own o =>
      obtain ⟨p, e1, e2, _, _, e3⟩ := f.own i o h
      rw [hg] at e1
      cases e1
      obtain ⟨u, e4⟩ := ObR.has (o := o) e3
      exact ⟨_, e4, e2⟩
theorem FR.fresh0 (f : FR K L0 io0 H0 L io H g e S) {p : Addr} (h : H p = none) : H0 p = none := by
  rcases f.en.back h with z | z
  · exact absurd h (f.st.dom p (f.en.up p (f.sub0 p z)))
  · exact z
def wipeE (e : Env) : List Nat → Env
  | [] => e
  | v :: vs => (wipeE e vs).set v .no
theorem FR.wipe (f : FR K L0 io0 H0 L io H g e S) : ∀ vs : List Nat, FR K L0 io0 H0 L io H (L2.wipe g vs) (wipeE e vs) S
  | [] => f
  | v :: vs => (FR.wipe f vs).setN v none
end
theorem wipe_get (g : St) : ∀ (vs : List Nat) (k : Nat), (L2.wipe g vs)[k]? = if k ∈ vs then (if k < g.length then some none else none) else g[k]?
  | [], k => by simp [L2.wipe]
  | v :: vs, k => by
    unfold L2.wipe
    rw [List.getElem?_set, L2.wipe_length, wipe_get g vs k]
    by_cases e : v = k
    · subst e; simp
    · rw [if_neg e]
      have : (k ∈ v :: vs) ↔ k ∈ vs := by simp [Ne.symm (a := v) (b := k) e]
      simp only [this]
theorem wipe_ext {g g' : St} {vs : List Nat} (hl : g'.length = g.length) (h : ∀ k, k ∉ vs → g'[k]? = g[k]?) : L2.wipe g' vs = L2.wipe g vs := by
  apply List.ext_getElem?
  intro k
  rw [wipe_get, wipe_get, hl]
  by_cases e : k ∈ vs
  · rw [if_pos e, if_pos e]
  · rw [if_neg e, if_neg e, h k e]
abbrev DG := Dv → Env → Option Env
def TGok (K : PySem.W.Frag) (t : TG) (gd : DG) (vs : List Nat) : Prop := ∀ (L0 : Addr → Prop) (io0 : List Addr) (H0 : Hp) (L : Addr → Prop) (io : List Addr) (H : Hp) (g : St) (e : Env) (S : Sto) (v : V) (d : Dv) (e' : Env) (Q : St → Hp → Prop),
  FR K L0 io0 H0 L io H g e S → VR K L io H v d → gd d e = some e' → (∀ g', FR K L0 io0 H0 L io H g' e' S → g'.length = g.length → (∀ k, k ∉ vs → g'[k]? = g[k]?) → Q g' H) → t v g H Q
def tgR (K : PySem.W.Frag) (gd : DG) (vs : List Nat) : TG := fun v g H Q => ∃ (L0 : Addr → Prop) (io0 : List Addr) (H0 : Hp) (L : Addr → Prop) (io : List Addr) (e : Env) (S : Sto) (d : Dv) (e' : Env), FR K L0 io0 H0 L io H g e S ∧ VR K L io H v d ∧ gd d e = some e' ∧
  ∀ g', FR K L0 io0 H0 L io H g' e' S → g'.length = g.length → (∀ k, k ∉ vs → g'[k]? = g[k]?) → Q g' H
theorem tgR_ok {K : PySem.W.Frag} {gd : DG} {vs : List Nat} : TGok K (tgR K gd vs) gd vs := fun L0 io0 H0 L io H g e S v d e' Q fr r h q => ⟨L0, io0, H0, L, io, e, S, d, e', fr, r, h, q⟩
/-- a target, and the slots that it may change -/
def QG (X : Cx) (tg : Expr) (gd : DG) (vs : List Nat) : Prop := ∃ t, PG X tg t ∧ TGok X.K t gd vs
theorem QG.canon {X : Cx} {tg : Expr} {gd : DG} {vs : List Nat} (h : QG X tg gd vs) : PG X tg (tgR X.K gd vs) := by
  obtain ⟨t, p, o⟩ := h
  refine ⟨fun pins s g H v u Q I r q => p.run pins s g H v u Q I r ?_⟩
  obtain ⟨L0, io0, H0, L, io, e, S, d, e', fr, rv, hd, q⟩ := q
  exact o L0 io0 H0 L io H g e S v d e' Q fr rv hd q
def gN (i : Nat) : DG := fun d e => some (e.set i (.va d))
abbrev DGs := List Dv → Env → Option Env
def TGsok (K : PySem.W.Frag) (t : TGs) (gd : DGs) (vs : List Nat) : Prop := ∀ (L0 : Addr → Prop) (io0 : List Addr) (H0 : Hp) (L : Addr → Prop) (io : List Addr) (H : Hp) (g : St) (e : Env) (S : Sto) (v : List V) (d : List Dv) (e' : Env) (Q : St → Hp → Prop),
  FR K L0 io0 H0 L io H g e S → VRs K L io H v d → gd d e = some e' → (∀ g', FR K L0 io0 H0 L io H g' e' S → g'.length = g.length → (∀ k, k ∉ vs → g'[k]? = g[k]?) → Q g' H) → t v g H Q
def QGs (X : Cx) (ts : List Expr) (gd : DGs) (n : Nat) (vs : List Nat) : Prop := (∃ t, PGs X ts t ∧ TGsok X.K t gd vs) ∧ ∀ l e e', gd l e = some e' → l.length = n
def gsNil : DGs := fun l e => match l with
  | [] => some e
  | _ => none
def gsCons (g : DG) (gs : DGs) : DGs := fun l e => match l with
  | d :: r => (g d e).bind fun e' => gs r e'
  | [] => none
def gT (gs : DGs) : DG := fun d e => (asT d).bind fun l => gs l e
section
variable {X : Cx} {pos : Pos} {x : Str} {i : Nat} {tg : Expr} {ts : List Expr} {gd : DG} {gds : DGs} {vs ws : List Nat} {n : Nat}
theorem qg_name (hN : X.N.Nodup) (i : Nat) (hi : X.N[i]? = some x := by rfl) (hx : Loc X.env.scope x := by first | exact Or.inl rfl | exact Or.inr rfl) (hf : X.fn x = true ∨ X.env.scope.names.lookup x = some .local := by first | exact .inl rfl | exact .inr rfl) : QG X (.Name x pos) (gN i) [i] := by
  refine ⟨gName i, pg_name hN hi hx hf, fun L0 io0 H0 L io H g e S v d e' Q fr r h q => ?_⟩
  cases h
  exact q _ (fr.setV i r) (List.length_set ..) fun k hk => set_ne (by simpa using hk)
theorem qgs_nil : QGs X [] gsNil 0 [] := by
  refine ⟨⟨gNil, pgs_nil, fun L0 io0 H0 L io H g e S v d e' Q fr r h q => ?_⟩, fun l e e' h => ?_⟩
  · cases r with
    | nil => cases h; exact ⟨rfl, q _ fr rfl fun _ _ => rfl⟩
    | cons => cases h
  · cases l with
    | nil => rfl
    | cons => cases h
theorem qgs_cons (h1 : QG X tg gd vs) (h2 : QGs X ts gds n ws) (hp : ∀ {t u}, PG X tg t → PGs X ts u → PGs X (tg :: ts) (gCons t u) := by intro _ _ a b; exact pgs_cons a b) : QGs X (tg :: ts) (gsCons gd gds) (n + 1) (vs ++ ws) := by
  obtain ⟨t, p1, o1⟩ := h1
  obtain ⟨⟨u, p2, o2⟩, hn⟩ := h2
  refine ⟨⟨gCons t u, hp p1 p2, fun L0 io0 H0 L io H g e S v d e' Q fr r h q => ?_⟩, fun l e e' h => ?_⟩
  · cases r with
    | nil => cases h
    | cons ra rt =>
      rename_i v vs' d ds
      simp only [gsCons] at h
      cases h3 : gd d e with
      | none => rw [h3] at h; cases h
      | some e1 =>
        rw [h3] at h
        refine ⟨v, vs', rfl, o1 L0 io0 H0 L io H g e S v d e1 _ fr ra h3 fun g1 fr1 l1 k1 => ?_⟩
        refine o2 L0 io0 H0 L io H g1 e1 S vs' ds e' _ fr1 rt h fun g2 fr2 l2 k2 => ?_
        exact q g2 fr2 (l2.trans l1) fun k hk => (k2 k fun z => hk (List.mem_append_right _ z)).trans (k1 k fun z => hk (List.mem_append_left _ z))
  · cases l with
    | nil => cases h
    | cons d ds =>
      simp only [gsCons] at h
      cases h3 : gd d e with
      | none => rw [h3] at h; cases h
      | some e1 => rw [h3] at h; rw [List.length_cons, hn ds e1 e' h]
theorem qg_tup {k : Nat} (hc : X.calm = true) (h : QGs X ts gds n vs) (hn : (assignEach ts X.env).length = n := by rfl) (hst : (assignEach ts X.env).findIdx? (·.1) = none := by rfl) : QG X (.Tuple ts k pos) (gT gds) vs := by
  obtain ⟨⟨t, p, o⟩, hl⟩ := h
  refine ⟨gTup X.K n t, pg_tup hc p hn hst, fun L0 io0 H0 L io H g e S v d e' Q fr r h q => ?_⟩
  unfold gT at h
  cases h1 : asT d with
  | none => rw [h1] at h; cases h
  | some l =>
    rw [h1] at h
    obtain ⟨a, xs, rfl, hs, t'⟩ := asT_ok r h1
    exact ⟨a, xs, rfl, hs, by rw [t'.len]; exact hl l e e' h, o L0 io0 H0 L io H g e S xs l e' Q fr t' h q⟩
end
structure WalkR (K : PySem.W.Frag) (L : Addr → Prop) (io : List Addr) (H : Hp) (J : It) (l : List Dv) : Prop where
  go : ∀ (L1 : Addr → Prop) (io1 : List Addr) (H1 : Hp) (S : Sto) (i : Nat) (d : Dv), Stw L io H L1 io1 H1 → SR K L1 io1 H1 S → l[i]? = some d → J.go i H1 ∧ ∀ x H2, J.yld i H1 x H2 → SR K L1 io1 H2 S ∧ Stp L1 io1 H1 L1 io1 H2 ∧ VR K L1 io1 H2 x d
  stop : ∀ (L1 : Addr → Prop) (io1 : List Addr) (H1 : Hp), Stw L io H L1 io1 H1 → J.stop l.length H1
def FinI (K : PySem.W.Frag) (W : WX) (g : St) (L : Addr → Prop) (io : List Addr) (H : Hp) (R : It → Hp → Prop) : Res (List Dv) → Prop
  | .ok l S' => ∀ (J : It) (H' : Hp) (L' : Addr → Prop) (io' : List Addr), Stp L io H L' io' H' → SR K L' io' H' S' → WalkR K L' io' H' J l → R J H'
  | .ex c fs S' => ∀ (x : Option Addr) (H' : Hp) (L' : Addr → Prop) (io' : List Addr), Stp L io H L' io' H' → SR K L' io' H' S' → ExR K L' io' H' x fs → W (.ref (He.ga K c)) x g H'
  | .no => False
def rdi (K : PySem.W.Frag) (W : WX) (f : DL) : TI := fun g H R => ∃ (L0 : Addr → Prop) (io0 : List Addr) (H0 : Hp) (L : Addr → Prop) (io : List Addr) (e : Env) (S : Sto), FR K L0 io0 H0 L io H g e S ∧ FinI K W g L io H R (f e S)
abbrev QI (X : Cx) (W : WX) (tg e : Expr) (f : DL) : Prop := PI X tg e (rdi X.K W f)
theorem FinI.bind {α β : Type} {K : PySem.W.Frag} {W : WX} {R : (Addr → Prop) → List Addr → Hp → β → α → Prop} {f : Env → Sto → Res α} {k : α → Sto → Res (List Dv)} {g : St} {L0 L : Addr → Prop} {io0 io : List Addr} {H0 H : Hp} {e : Env} {S : Sto} {Q : It → Hp → Prop} {P : β → Hp → Prop}
    (fr : FR K L0 io0 H0 L io H g e S) (h : FinI K W g L io H Q (bnd (f e S) k))
    (n : ∀ (L1 : Addr → Prop) (io1 : List Addr) (H1 : Hp) (S1 : Sto) (a : α) (v : β), Stp L io H L1 io1 H1 → FR K L0 io0 H0 L1 io1 H1 g e S1 → R L1 io1 H1 v a → FinI K W g L1 io1 H1 Q (k a S1) → P v H1) : Rdg K W R f g H P := by
  refine ⟨L0, io0, H0, L, io, e, S, fr, ?_⟩
  cases hf : f e S with
  | ok a S1 =>
    rw [hf] at h
    intro v H1 L1 io1 s1 sr1 r1
    have h : FinI K W g L io H Q (k a S1) := h
    refine n L1 io1 H1 S1 a v s1 (fr.step s1 sr1) r1 ?_
    cases hk : k a S1 with
    | ok l S2 =>
      rw [hk] at h
      exact fun v H' L' io' s2 sr r2 => h v H' L' io' (s1.trans s2 fr.st.sub) sr r2
    | ex c fs S2 =>
      rw [hk] at h
      exact fun v H' L' io' s2 sr r2 => h v H' L' io' (s1.trans s2 fr.st.sub) sr r2
    | no => rw [hk] at h; exact h
  | ex c fs S1 => rw [hf] at h; exact h
  | no => rw [hf] at h; exact h
section
variable {K : PySem.W.Frag} {L : Addr → Prop} {io : List Addr} {H : Hp}
theorem SqT.stw {a : Addr} {xs : List V} {ds : List Dv} {L1 : Addr → Prop} {io1 : List Addr} {H1 : Hp} {v : V} (r : VR K L io H v (.tup ds)) (s : Stw L io H L1 io1 H1) : ∃ a xs, v = .ref a ∧ SqT K H1 a xs ∧ VRs K L1 io1 H1 xs ds := (r.stw s).tupS
theorem walk_tup {a : Addr} {ds : List Dv} (r : VR K L io H (.ref a) (.tup ds)) : WalkR K L io H (Itt K a) ds where
  go := fun L1 io1 H1 S i d s sr h => by
    obtain ⟨a', xs, e, hs, t⟩ := (r.stw s).tupS
    cases e
    obtain ⟨v, h1, h2⟩ := t.get h
    refine ⟨⟨xs, v, hs, h1⟩, fun x H2 ⟨e, y⟩ => ?_⟩
    subst e
    have := y xs hs
    rw [h1] at this
    cases this
    exact ⟨sr, Stp.refl .., h2⟩
  stop := fun L1 io1 H1 s => by
    obtain ⟨a', xs, e, hs, t⟩ := (r.stw s).tupS
    cases e
    exact ⟨xs, hs, by rw [t.len]; exact Nat.le_refl _⟩
/-- a list that no handle holds -/
def asF : Dv → Option (List Dv)
  | .lst l => some l
  | .rol l => some l
  | _ => none
theorem asF_ok {v : V} {d : Dv} {l : List Dv} (r : VR K L io H v d) (h : asF d = some l) : ∃ a xs, v = .ref a ∧ SqL K H a xs ∧ VRs K L io H xs l := by
  cases r with
  | lst nl e t => cases h; exact ⟨_, _, rfl, SqL.of e, t⟩
  | rol nl e t => cases h; exact ⟨_, _, rfl, .inl e, t⟩
  | rolK e t => cases h; exact ⟨_, _, rfl, e H, t⟩
  | _ => cases h
theorem walk_lst {a : Addr} {d : Dv} {ds : List Dv} (r : VR K L io H (.ref a) d) (h : asF d = some ds) : WalkR K L io H (Itl K a) ds where
  go := fun L1 io1 H1 S i d s sr hd => by
    obtain ⟨a', xs, e, hs, t⟩ := asF_ok (r.stw s) h
    cases e
    obtain ⟨v, h1, h2⟩ := t.get hd
    refine ⟨⟨xs, v, hs, h1⟩, fun x H2 ⟨e, y⟩ => ?_⟩
    subst e
    have := y xs hs
    rw [h1] at this
    cases this
    exact ⟨sr, Stp.refl .., h2⟩
  stop := fun L1 io1 H1 s => by
    obtain ⟨a', xs, e, hs, t⟩ := asF_ok (r.stw s) h
    cases e
    exact ⟨xs, hs, by rw [t.len]; exact Nat.le_refl _⟩
def rngD (lo : Int) (n : Nat) : List Dv := (List.range n).map fun (i : Nat) => Dv.int (lo + (i : Int))
theorem walk_rng {lo : Int} {n : Nat} : WalkR K L io H (Itr lo n) (rngD lo n) where
  go := fun L1 io1 H1 S i d s sr hd => by
    unfold rngD at hd
    rw [List.getElem?_map] at hd
    cases e : (List.range n)[i]? with
    | none => rw [e] at hd; cases hd
    | some j =>
      rw [e] at hd
      have hi := (List.getElem?_eq_some_iff.mp e)
      obtain ⟨h1, h2⟩ := hi
      rw [List.getElem_range] at h2
      subst h2
      cases hd
      rw [List.length_range] at h1
      refine ⟨h1, fun x H2 ⟨e, y⟩ => ?_⟩
      subst e y
      exact ⟨sr, Stp.refl .., .int _⟩
  stop := fun L1 io1 H1 s => by
    show n ≤ (rngD lo n).length
    unfold rngD
    rw [List.length_map, List.length_range]
    exact Nat.le_refl _
end
section
variable {X : Cx} {W : WX} {pos p : Pos} {tg a b : Expr} {f f2 : DE}
/-- what pyIter gives of a value -/
def IterR (X : Cx) (tg : Expr) (r : V → Hp → (It → Hp → Prop) → Prop) : Prop := ∀ (pins : List (Addr × Obj)) (s : Shared) (g : St) (H : Hp) (x : V) (v : Value) (R : It → Hp → Prop), Inv X pins g H s → RelV x v → r x H R → wpAny (model X.prog X.w) X.A (pyIter v) (PIE X pins g tg R) X.xe s
theorem IterR.or' {r r' : V → Hp → (It → Hp → Prop) → Prop} (h : IterR X tg r) (h' : IterR X tg r') : IterR X tg (fun x H R => r x H R ∨ r' x H R) := fun pins s g H x v R I rx q => q.elim (h pins s g H x v R I rx) (h' pins s g H x v R I rx)
theorem pi_of {l : Expr} {tl : TE} {r : V → Hp → (It → Hp → Prop) → Prop} (hl : PE X l tl) (hr : IterR X tg r) : PI X tg l (fun g H R => tl g H fun x H1 => r x H1 R) :=
  ⟨fun pins s g H R I h => thn (hl.run pins s g H _ I h) fun v s1 ⟨x, H1, I1, r1, q1⟩ => hr pins s1 g H1 x v R I1 r1 q1⟩
theorem iter_lst : IterR X tg (fun x H R => ∃ a, x = .ref a ∧ (∃ xs, SqL X.K H a xs) ∧ R (Itl X.K a) H) := by
  rintro pins s g H x v R I rx ⟨a, rfl, ⟨xs, hq⟩, q⟩
  obtain rfl : v = .ref a := rx
  obtain ⟨its, rv, p, hz⟩ := I.list hq
  exact wpAny_pyIter_list p.isList ⟨_, _, _, _, H, rfl, I.kept (t' := s.toks) fun b o e => Heap.get?_push_of_some _ e, turn_list a _, ⟨_, Heap.get?_push_size _ rfl, rfl, rfl⟩, fun b hb => by
    rw [show b = s.heap.objs.size from by simpa using hb]
    exact I.fpOk (Nat.le_refl _) (I.hok.fresh (Nat.le_refl _)), q⟩
theorem iter_tup : IterR X tg (fun x H R => ∃ a, x = .ref a ∧ (∃ xs, SqT X.K H a xs) ∧ R (Itt X.K a) H) := by
  rintro pins s g H x v R I rx ⟨a, rfl, ⟨xs, hq⟩, q⟩
  obtain rfl : v = .ref a := rx
  obtain ⟨its, rv, p, hz⟩ := I.tuple hq
  exact wpAny_pyIter_tuple (show s.heap.IsTuple a its.toArray from p) ⟨_, _, _, _, H, rfl, I.kept (t' := s.toks) fun b o e => Heap.get?_push_of_some _ e, turn_tuple a _, ⟨_, Heap.get?_push_size _ rfl, rfl, rfl⟩, fun b hb => by
    rw [show b = s.heap.objs.size from by simpa using hb]
    exact I.fpOk (Nat.le_refl _) (I.hok.fresh (Nat.le_refl _)), q⟩
theorem iter_str : IterR X tg (fun x H R => ∃ z, x = .str z ∧ R (Its z) H) := by
  rintro pins s g H x v R I rx ⟨z, rfl, q⟩
  obtain ⟨t, rfl⟩ := rx
  cases ha : z.cps.all (· < 128)
  · exact wpAny_pyIter_wide ha (pi_one (tk := s.toks) I _ (turn_str _ z t "str_iterator" (.inr rfl)) ⟨_, Heap.get?_push_size _ rfl, rfl, rfl⟩ q)
  · exact wpAny_pyIter_ascii ha (pi_one (tk := s.toks) I _ (turn_str _ z t "str_ascii_iterator" (.inl rfl)) ⟨_, Heap.get?_push_size _ rfl, rfl, rfl⟩ q)
def strL (z : Str) : List Dv := z.cps.toList.map fun c => Dv.str ⟨#[c]⟩
theorem walk_str {K : PySem.W.Frag} {L : Addr → Prop} {io : List Addr} {H : Hp} {z : Str} : WalkR K L io H (Its z) (strL z) where
  go := fun L1 io1 H1 S i d s sr hd => by
    unfold strL at hd
    rw [List.getElem?_map] at hd
    cases e : z.cps.toList[i]? with
    | none => rw [e] at hd; cases hd
    | some c =>
      rw [e] at hd
      cases hd
      have hi := (List.getElem?_eq_some_iff.mp e).1
      refine ⟨(by simpa using hi : i < z.cps.size), fun x H2 ⟨e2, c', y1, y2⟩ => ?_⟩
      subst e2 y2
      have : c' = c := by
        rw [Array.getElem?_toList] at e
        rw [e] at y1
        exact (Option.some.inj y1).symm
      subst this
      exact ⟨sr, Stp.refl .., .str _⟩
  stop := fun L1 io1 H1 s => by
    show z.cps.size ≤ (strL z).length
    unfold strL
    simp
def seqR (d : Dv) (S : Sto) : Res (List Dv) := match d with
  | .tup l => .ok l S
  | .lst l => .ok l S
  | .rol l => .ok l S
  | .str z => .ok (strL z) S
  | _ => .no
def iSq (f : DE) : DL := fun e S => bnd (f e S) seqR
theorem qi_seq (h : QE X W a f) : QI X W tg a (iSq f) := by
  have hp := pi_of h (IterR.or' (iter_lst (X := X) (tg := tg)) (IterR.or' iter_tup iter_str))
  refine ⟨fun pins s g H R I q => hp.run pins s g H R I ?_⟩
  obtain ⟨L0, io0, H0, L, io, e, S, fr, q⟩ := q
  refine FinI.bind (R := VR X.K) (k := seqR) fr q fun L1 io1 H1 S1 d v s1 fr1 r1 q => ?_
  cases d with
  | tup l =>
    obtain ⟨a, xs, rfl, hs, t⟩ := r1.tupS
    exact .inr (.inl ⟨a, rfl, ⟨xs, hs⟩, q _ H1 L1 io1 (Stp.refl ..) fr1.st (walk_tup r1)⟩)
  | lst l =>
    obtain ⟨a, xs, rfl, hs, t⟩ := asF_ok r1 rfl
    exact .inl ⟨a, rfl, ⟨xs, hs⟩, q _ H1 L1 io1 (Stp.refl ..) fr1.st (walk_lst r1 rfl)⟩
  | rol l =>
    obtain ⟨a, xs, rfl, hs, t⟩ := asF_ok r1 rfl
    exact .inl ⟨a, rfl, ⟨xs, hs⟩, q _ H1 L1 io1 (Stp.refl ..) fr1.st (walk_lst r1 rfl)⟩
  | str z =>
    cases r1
    exact .inr (.inr ⟨z, rfl, q _ H1 L1 io1 (Stp.refl ..) fr1.st walk_str⟩)
  | _ => exact q.elim
def rngR1 : List Dv → Sto → Res (List Dv)
  | [.int j], S => if -(2 ^ 62) ≤ j ∧ j < 2 ^ 62 then .ok (rngD 0 j.toNat) S else .no
  | _, _ => .no
def rngR2 : List Dv → Sto → Res (List Dv)
  | [.int i, .int j], S => if -(2 ^ 62) ≤ i ∧ i < 2 ^ 62 ∧ -(2 ^ 62) ≤ j ∧ j < 2 ^ 62 then .ok (rngD i (j - i).toNat) S else .no
  | _, _ => .no
def iRng1' (fa : DA) : DL := fun e S => bnd (fa e S) rngR1
def iRng2' (fa : DA) : DL := fun e S => bnd (fa e S) rngR2
theorem qi_range1 (hm : X.mg "range" = none) {fa : DA} (ha : QA X W [a] fa) (hg : Gl X "range" := by rfl) (hs : starEach [a] X.env = [(false, eval a X.env)] := by rfl) : QI X W tg (.Call (.Name "range" p) [a] [] pos) (iRng1' fa) := by
  have hp := pi_range1 (tg := tg) (p := p) (pos := pos) hg hm ha hs
  refine ⟨fun pins s g H R I q => hp.run pins s g H R I ?_⟩
  obtain ⟨L0, io0, H0, L, io, e, S, fr, q⟩ := q
  refine FinI.bind (R := VRs X.K) (k := rngR1) fr q fun L1 io1 H1 S1 l v s1 fr1 r1 q => ?_
  cases r1 with
  | nil => exact q.elim
  | cons r t =>
    cases r with
    | int j =>
      cases t with
      | nil =>
        simp only [rngR1] at q
        split at q
        · rename_i h
          exact ⟨j, rfl, h.1, h.2, q _ H1 L1 io1 (Stp.refl ..) fr1.st walk_rng⟩
        · exact q.elim
      | cons r2 t2 => exact q.elim
    | _ => exact q.elim
end
end DL
namespace DL
open PySem L2
def W0 : WX := fun _ _ _ _ => False
def lcR (tg : DG) (tt : DT) (te : DE) (e : Env) : List Dv → Sto → Res (List Dv)
  | [], S => .ok [] S
  | d :: ds, S => match tg d e with
    | none => .no
    | some e' => match tt e' S with
      | .ok b S1 => if b then (match te e' S1 with
          | .ok y S2 => (match lcR tg tt te e ds S2 with
            | .ok l S3 => .ok (y :: l) S3
            | _ => .no)
          | _ => .no) else lcR tg tt te e ds S1
      | _ => .no
def fLc (fi : DL) (tg : DG) (tt : DT) (te : DE) (vs : List Nat) : DL := fun e S => bnd (fi e S) fun ds S1 => match lcR tg tt te (wipeE e vs) ds S1 with
  | .ok l S2 => if l.length ≤ sizeLine then .ok l S2 else .no
  | _ => .no
def tTrue : DT := fun _ S => .ok true S
abbrev QTs (X : Cx) (W : WX) (es : List Expr) (f : DT) : Prop := PTs X es (rdt X.K W f)
theorem pts_imp {X : Cx} {e : List Expr} {t t' : TT} (h : PTs X e t) (i : ∀ g H Q, t' g H Q → t g H Q) : PTs X e t' := ⟨fun pins s g H Q I q => h.run pins s g H Q I (i g H Q q)⟩
theorem qts_nil {X : Cx} {W : WX} : QTs X W [] tTrue := pts_imp pts_nil fun g H Q q => by
  obtain ⟨L0, io0, H0, L, io, e, S, fr, q⟩ := q
  exact q.ok1 fr.st rfl
theorem FinI.bindF {K : PySem.W.Frag} {W : WX} {f : DL} {k : List Dv → Sto → Res (List Dv)} {g : St} {L0 L : Addr → Prop} {io0 io : List Addr} {H0 H : Hp} {e : Env} {S : Sto} {Q : V → Hp → Prop} {P : It → Hp → Prop}
    (fr : FR K L0 io0 H0 L io H g e S) (h : FinF K W g L io H Q (bnd (f e S) k))
    (n : ∀ (L1 : Addr → Prop) (io1 : List Addr) (H1 : Hp) (S1 : Sto) (a : List Dv) (J : It), Stp L io H L1 io1 H1 → FR K L0 io0 H0 L1 io1 H1 g e S1 → WalkR K L1 io1 H1 J a → FinF K W g L1 io1 H1 Q (k a S1) → P J H1) : rdi K W f g H P := by
  refine ⟨L0, io0, H0, L, io, e, S, fr, ?_⟩
  cases hf : f e S with
  | ok a S1 =>
    rw [hf] at h
    intro v H1 L1 io1 s1 sr1 r1
    have h : FinF K W g L io H Q (k a S1) := h
    refine n L1 io1 H1 S1 a v s1 (fr.step s1 sr1) r1 ?_
    cases hk : k a S1 with
    | ok l S2 =>
      rw [hk] at h
      intro v H' L' io' s2 sr2 ⟨p, xs, e1, e2, e3⟩
      refine h v H' L' io' (s1.trans s2 fr.st.sub) sr2 ⟨p, xs, e1, ?_, e3⟩
      rcases s1.back e2 with z | z
      · exact absurd e2 (sr1.dom p (s1.up p (fr.st.sub p z)))
      · exact z
    | ex c fs S2 =>
      rw [hk] at h
      exact fun v H' L' io' s2 sr r2 => h v H' L' io' (s1.trans s2 fr.st.sub) sr r2
    | no => rw [hk] at h; exact h
  | ex c fs S1 => rw [hf] at h; exact h
  | no => rw [hf] at h; exact h
section
variable {X : Cx} {W : WX} {elt tg iter : Expr} {ifs : List Expr} {scope : Scope} {own : List (Str × Nat)} {pos : Pos} {fi : DL} {gd : DG} {tt : DT} {te : DE} {vs : List Nat}
theorem rd_lc {K : PySem.W.Frag} {t : TG} (ho : TGok K t gd vs) {g : St} {H : Hp} {Q : VK} (q : rdF K W (fLc fi gd tt te vs) g H Q) : tLc (rdi K W fi) t (rdt K W0 tt) (rd K W0 te) vs g H Q := by
  obtain ⟨L0, io0, H0, L, io, e, S, fr, q⟩ := q
  refine FinI.bindF (k := fun ds S1 => match lcR gd tt te (wipeE e vs) ds S1 with
    | .ok l S2 => if l.length ≤ sizeLine then .ok l S2 else .no
    | _ => .no) fr q fun L1 io1 H1 S1 ds J s1 fr1 wk q => ?_
  cases hl : lcR gd tt te (wipeE e vs) ds S1 with
  | ex c fs S2 => rw [hl] at q; exact q.elim
  | no => rw [hl] at q; exact q.elim
  | ok l S2 =>
    rw [hl] at q
    simp only at q
    split at q
    · rename_i hz
      intro D hD
      have st0 := fr1.st
      -- the invariant
      refine ⟨fun i m H' => m = ds.length - i ∧ i ≤ ds.length ∧ ∃ (L' : Addr → Prop) (io' : List Addr) (S' : Sto) (acc : List V) (da dr : List Dv), FR K L0 io0 H0 L' io' H' (L2.wipe g vs) (wipeE e vs) S' ∧ Stp L1 io1 H1 L' io' H' ∧ Stw L1 io1 H1 L' io' H' ∧ L' D ∧ D ∉ io' ∧ H' D = some (.lst acc) ∧ VRs K L' io' H' acc da ∧ lcR gd tt te (wipeE e vs) (ds.drop i) S' = .ok dr S2 ∧ da ++ dr = l, ⟨ds.length, by simp, Nat.zero_le _, ?_⟩, ?_⟩
      · have s2 : Stp L1 io1 H1 (Ly L1 D) io1 (upd H1 D (.lst [])) := Stp.newV hD
        exact ⟨Ly L1 D, io1, S1, [], [], l, (fr1.step s2 (st0.newV hD)).wipe vs, s2, s2.stw st0.sub, .inr rfl, fun z => st0.dom D (st0.sub D z) hD, upd_same, .nil, by rw [List.drop_zero]; exact hl, rfl⟩
      · rintro i m H' ⟨rfl, hi, L', io', S', acc, da, dr, fr', sp, sw, lD, nD, hDa, ra, hr, hda⟩
        by_cases hlt : i < ds.length
        · obtain ⟨d, hd⟩ : ∃ d, ds[i]? = some d := ⟨_, List.getElem?_eq_getElem hlt⟩
          have hdrop : ds.drop i = d :: ds.drop (i + 1) := by
            rw [List.drop_eq_getElem_cons hlt]
            rw [List.getElem?_eq_getElem hlt] at hd
            cases hd
            rfl
          rw [hdrop] at hr
          obtain ⟨hgo, hy⟩ := wk.go L' io' H' S' i d sw fr'.st hd
          refine .inr ⟨hgo, fun H'' => ∃ m', m' < ds.length - i ∧ (m' = ds.length - (i + 1) ∧ i + 1 ≤ ds.length ∧ ∃ (L' : Addr → Prop) (io' : List Addr) (S' : Sto) (acc : List V) (da dr : List Dv), FR K L0 io0 H0 L' io' H'' (L2.wipe g vs) (wipeE e vs) S' ∧ Stp L1 io1 H1 L' io' H'' ∧ Stw L1 io1 H1 L' io' H'' ∧ L' D ∧ D ∉ io' ∧ H'' D = some (.lst acc) ∧ VRs K L' io' H'' acc da ∧ lcR gd tt te (wipeE e vs) (ds.drop (i + 1)) S' = .ok dr S2 ∧ da ++ dr = l), fun H'' h => h, fun x H2 y => ?_⟩
          obtain ⟨sr2, sp2, r2⟩ := hy x H2 y
          have fr2 := fr'.step sp2 sr2
          -- the target
          simp only [lcR] at hr
          cases hg : gd d (wipeE e vs) with
          | none => rw [hg] at hr; cases hr
          | some e' =>
            rw [hg] at hr
            simp only at hr
            refine ho L0 io0 H0 L' io' H2 (L2.wipe g vs) (wipeE e vs) S' x d e' _ fr2 r2 hg fun g' fr3 lg kg => ⟨?_, ?_⟩
            · exact (wipe_ext lg kg).trans (wipe_ext (L2.wipe_length g vs) fun k hk => by rw [wipe_get, if_neg hk])
            -- the test
            · cases ht : tt e' S' with
              | ex c fs S3 => rw [ht] at hr; cases hr
              | no => rw [ht] at hr; cases hr
              | ok b S3 =>
                rw [ht] at hr
                simp only at hr
                refine ⟨L0, io0, H0, L', io', e', S', fr3, ?_⟩
                rw [ht]
                intro b' H3 L3 io3 s3 sr3 eb
                subst eb
                have fr3' := fr2.step s3 sr3
                have sp3 := (sp.trans sp2 st0.sub).trans s3 st0.sub
                have sw3 := (sw.trans (sp2.stw fr'.st.sub)).trans (s3.stw fr2.st.sub)
                have l3 : L3 D := s3.up D (sp2.up D lD)
                have k2 : H2 D = some (.lst acc) := sp2.keep D _ hDa nD
                have n3 : D ∉ io3 := fun z => by
                  rcases s3.hn D z with q | q
                  · exact nD q
                  · rw [q] at k2; cases k2
                have k3 : H3 D = some (.lst acc) := s3.keep D _ k2 nD
                have ra3 := (ra.step sp2 fr'.st.sub).step s3 fr2.st.sub
                cases b' with
                | false =>
                  rw [if_neg Bool.false_ne_true] at hr
                  refine iteF ⟨_, by omega, rfl, hlt, L3, io3, S3, acc, da, dr, fr3', sp3, sw3, l3, n3, k3, ra3, hr, hda⟩
                | true =>
                  rw [if_pos rfl] at hr
                  refine iteT ?_
                  -- the element
                  cases he : te e' S3 with
                  | ex c fs S4 => rw [he] at hr; cases hr
                  | no => rw [he] at hr; cases hr
                  | ok y' S4 =>
                    rw [he] at hr
                    simp only at hr
                    refine ⟨L0, io0, H0, L3, io3, e', S3, fr3.step s3 sr3, ?_⟩
                    rw [he]
                    intro y H4 L4 io4 s4 sr4 ry
                    have k4 : H4 D = some (.lst acc) := s4.keep D _ k3 n3
                    have l4 : L4 D := s4.up D l3
                    have n4 : D ∉ io4 := fun z => by
                      rcases s4.hn D z with q | q
                      · exact n3 q
                      · rw [q] at k3; cases k3
                    have fr4 := fr3'.step s4 sr4
                    have sp4 := sp3.trans s4 st0.sub
                    have sw4 := sw3.trans (s4.stw fr3'.st.sub)
                    have ra4 := ra3.step s4 fr3'.st.sub
                    cases hrest : lcR gd tt te (wipeE e vs) (ds.drop (i + 1)) S4 with
                    | ex c fs S5 => rw [hrest] at hr; cases hr
                    | no => rw [hrest] at hr; cases hr
                    | ok l' S5 =>
                      rw [hrest] at hr
                      cases hr
                      have hlen : acc.length < sizeLine := by
                        rw [ra.len]
                        rw [← hda, List.length_append, List.length_cons] at hz
                        omega
                      have hD1 : H1 D = none := hD
                      have frm : FR K L0 io0 H0 L4 io4 (upd H4 D (.lst (acc ++ [y]))) (L2.wipe g vs) (wipeE e vs) S4 := by
                        refine fr4.mutD l4 n4 (fr1.fresh0 hD) fun j q' v1 v2 v3 hg' => ?_
                        obtain ⟨o, ho', _⟩ := (fr1.wipe vs).ownAt v1 v2 v3 hg'
                        exact ne_of_none ho' hD
                      refine ⟨acc, k4, hlen, _, by omega, rfl, hlt, L4, io4, S4, acc ++ [y], da ++ [y'], l', frm, ?_, sw4.trans (Stw.mut l4), l4, n4, upd_same, (ra4.app (.cons ry .nil)).mut l4, hrest, by rw [List.append_assoc]; exact hda⟩
                      exact ⟨sp4.pre, sp4.hn, sp4.new, fun a o h n => by rw [upd_ne (ne_of_none h hD1)]; exact sp4.keep a o h n, sp4.up⟩
        · have ei : i = ds.length := by omega
          subst ei
          rw [List.drop_length] at hr
          cases hr
          rw [List.append_nil] at hda
          subst hda
          refine .inl ⟨wk.stop L' io' H' sw, ?_⟩
          exact q _ H' L' io' sp fr'.st ⟨D, acc, rfl, hD, lD, nD, hDa, ra⟩
    · exact q.elim
theorem qf_lc (hc : X.calm = true) (hN : X.N.Nodup) (hi : QI X W tg iter fi) (ok : BlkOk X.N X.env.scope scope own)
    (hg : ∀ (s : Shared) (H : Hp) (C : Addr) (cl : List (Str × Addr)) (fp : List Addr), QG (X.blk s H scope (compEnvC scope cl C X.env) fp) tg gd (own.map (·.2)))
    (ht : ∀ (s : Shared) (H : Hp) (C : Addr) (cl : List (Str × Addr)) (fp : List Addr), QTs (X.blk s H scope (compEnvC scope cl C X.env) fp) W0 ifs tt)
    (he : ∀ (s : Shared) (H : Hp) (C : Addr) (cl : List (Str × Addr)) (fp : List Addr), QE (X.blk s H scope (compEnvC scope cl C X.env) fp) W0 elt te) (hs : ∀ x, foldedSetIterable iter X.env x = pure x := by intro _; rfl) :
    QF X W (.ListComp elt [⟨tg, iter, ifs, 0⟩] scope pos) (fLc fi gd tt te (own.map (·.2))) :=
  pe_imp (pe_lc (g := tgR X.K gd (own.map (·.2))) (tt := rdt X.K W0 tt) (te := rd X.K W0 te) hc hN hi ok (fun s H C cl fp => (hg s H C cl fp).canon) ht he hs) fun g H Q q => rd_lc tgR_ok q
end
end DL
namespace DL
open PySem L2
inductive Out where
  | nx (e : Env) (S : Sto) | rt (d : Dv) (S : Sto) | bk (e : Env) (S : Sto) | ct (e : Env) (S : Sto) | ex (c : Str) (fs : List (Str × Dv)) (e : Env) (S : Sto) | no
abbrev DS := Env → Sto → Out
def outR (K : PySem.W.Frag) (W : WX) (L0 : Addr → Prop) (io0 : List Addr) (H0 : Hp) (D : Ends) (L : Addr → Prop) (io : List Addr) (H : Hp) : Out → Prop
  | .nx e S => ∀ (g : St) (H' : Hp) (L' : Addr → Prop) (io' : List Addr), Stw L io H L' io' H' → FR K L0 io0 H0 L' io' H' g e S → D.nx g H'
  | .bk e S => ∀ (g : St) (H' : Hp) (L' : Addr → Prop) (io' : List Addr), Stw L io H L' io' H' → FR K L0 io0 H0 L' io' H' g e S → D.bk g H'
  | .ct e S => ∀ (g : St) (H' : Hp) (L' : Addr → Prop) (io' : List Addr), Stw L io H L' io' H' → FR K L0 io0 H0 L' io' H' g e S → D.ct g H'
  | .rt d S => ∀ (v : V) (H' : Hp) (L' : Addr → Prop) (io' : List Addr), SR K L' io' H' S → Stp L0 io0 H0 L' io' H' → VR K L' io' H' v d → D.rt v H'
  | .ex c fs e S => ∀ (x : Option Addr) (g : St) (H' : Hp) (L' : Addr → Prop) (io' : List Addr), Stw L io H L' io' H' → FR K L0 io0 H0 L' io' H' g e S → ExR K L' io' H' x fs → W (.ref (He.ga K c)) x g H'
  | .no => False
def rds (K : PySem.W.Frag) (W : WX) (f : DS) : TS := fun D g H => ∃ (L0 : Addr → Prop) (io0 : List Addr) (H0 : Hp) (L : Addr → Prop) (io : List Addr) (e : Env) (S : Sto), FR K L0 io0 H0 L io H g e S ∧ outR K W L0 io0 H0 D L io H (f e S)
abbrev QS (X : Cx) (W : WX) (st : Stmt) (f : DS) : Prop := PS X st (rds X.K W f)
abbrev QSs (X : Cx) (W : WX) (sts : List Stmt) (f : DS) : Prop := PSs X sts (rds X.K W f)
theorem outR.later {K : PySem.W.Frag} {W : WX} {L0 L L1 : Addr → Prop} {io0 io io1 : List Addr} {H0 H H1 : Hp} {D : Ends} {o : Out} (h : outR K W L0 io0 H0 D L io H o) (s : Stw L io H L1 io1 H1) : outR K W L0 io0 H0 D L1 io1 H1 o := by
  cases o with
  | nx e S => exact fun g H' L' io' s2 fr => h g H' L' io' (s.trans s2) fr
  | bk e S => exact fun g H' L' io' s2 fr => h g H' L' io' (s.trans s2) fr
  | ct e S => exact fun g H' L' io' s2 fr => h g H' L' io' (s.trans s2) fr
  | rt d S => exact h
  | ex c fs e S => exact fun x g H' L' io' s2 fr => h x g H' L' io' (s.trans s2) fr
  | no => exact h
def sBind {α : Type} (f : Env → Sto → Res α) (k : Env → α → Sto → Out) : DS := fun e S => match f e S with
  | .ok a S' => k e a S'
  | .ex c fs S' => .ex c fs e S'
  | .no => .no
theorem rds_bind {α β : Type} {K : PySem.W.Frag} {W : WX} {R : (Addr → Prop) → List Addr → Hp → β → α → Prop} {f : Env → Sto → Res α} {k : Env → α → Sto → Out} {D : Ends} {g : St} {H : Hp} {P : β → Hp → Prop} (h : rds K W (sBind f k) D g H)
    (n : ∀ (L0 : Addr → Prop) (io0 : List Addr) (H0 : Hp) (L : Addr → Prop) (io : List Addr) (H1 : Hp) (e : Env) (S : Sto) (a : α) (v : β), FR K L0 io0 H0 L io H1 g e S → R L io H1 v a → outR K W L0 io0 H0 D L io H1 (k e a S) → P v H1) : Rdg K W R f g H P := by
  obtain ⟨L0, io0, H0, L, io, e, S, fr, h⟩ := h
  unfold sBind at h
  refine ⟨L0, io0, H0, L, io, e, S, fr, ?_⟩
  cases hf : f e S with
  | ok a S1 =>
    rw [hf] at h
    intro v H1 L1 io1 s1 sr1 r1
    exact n L0 io0 H0 L1 io1 H1 e S1 a v (fr.step s1 sr1) r1 (outR.later h (s1.stw fr.st.sub))
  | ex c fs S1 =>
    rw [hf] at h
    exact fun x H' L' io' s sr r => h x g H' L' io' (s.stw fr.st.sub) (fr.step s sr) r
  | no => rw [hf] at h; exact h
section
variable {X : Cx} {W : WX} {pos : Pos} {a b c : Expr} {f : DE} {t : DT} {f1 f2 : DS} {st : Stmt} {rest sa sb : List Stmt} {i : Nat} {x : Str}
def sNil : DS := fun e S => .nx e S
def sSeq (f1 f2 : DS) : DS := fun e S => match f1 e S with
  | .nx e' S' => f2 e' S'
  | o => o
theorem qss_nil : QSs X W [] sNil := pss_imp pss_nil fun D g H h => by
  obtain ⟨L0, io0, H0, L, io, e, S, fr, h⟩ := h
  exact h g H L io (Stw.refl ..) fr
theorem qss_cons (h1 : QS X W st f1) (h2 : QSs X W rest f2) : QSs X W (st :: rest) (sSeq f1 f2) := pss_imp (pss_cons h1 h2) fun D g H h => by
  obtain ⟨L0, io0, H0, L, io, e, S, fr, h⟩ := h
  unfold sSeq at h
  refine ⟨L0, io0, H0, L, io, e, S, fr, ?_⟩
  cases hf : f1 e S with
  | nx e' S' =>
    rw [hf] at h
    exact fun g' H' L' io' s fr' => ⟨L0, io0, H0, L', io', e', S', fr', outR.later h s⟩
  | _ => rw [hf] at h; exact h
theorem qss_one (h1 : QS X W st f1) : QSs X W [st] f1 := pss_one h1
def sRet (f : DE) : DS := sBind f fun _ d S => .rt d S
theorem qs_ret (h : QE X W a f) : QS X W (.Return (some a) pos) (sRet f) := ps_imp (ps_ret h) fun D g H h => by
  refine rds_bind (R := VR X.K) (k := fun _ d S => .rt d S) h fun L0 io0 H0 L io H1 e S d v fr r q => ?_
  exact q v H1 L io fr.st fr.en r
def sExpr (f : DE) : DS := sBind f fun e _ S => .nx e S
theorem qs_expr (h : QE X W a f) (hs : swapsWith a none pos.line X.env = pure false := by rfl) : QS X W (.Expr a pos) (sExpr f) := ps_imp (ps_expr h hs) fun D g H h => by
  refine rds_bind (R := VR X.K) (k := fun e _ S => .nx e S) h fun L0 io0 H0 L io H1 e S d v fr r q => ?_
  exact q g H1 L io (Stw.refl ..) fr
/-- a statement that is never reached -/
def sNever : DS := fun _ _ => .no
theorem qs_never : QS X W st sNever := ps_imp ps_never fun D g H h => by
  obtain ⟨L0, io0, H0, L, io, e, S, fr, h⟩ := h
  exact h
def sIf (t : DT) (f1 f2 : DS) : DS := sBind t fun e b S => if b then f1 e S else f2 e S
theorem qs_if (hc : QT X W c t) (ha : QSs X W sa f1) (hb : QSs X W sb f2) : QS X W (.If c sa sb pos) (sIf t f1 f2) := ps_imp (ps_if hc ha hb) fun D g H h => by
  refine rds_bind (R := fun _ _ _ (v : Bool) d => v = d) (k := fun e b S => if b then f1 e S else f2 e S) h fun L0 io0 H0 L io H1 e S d v fr r q => ?_
  subst r
  cases v with
  | true => exact iteT ⟨L0, io0, H0, L, io, e, S, fr, q⟩
  | false => exact iteF ⟨L0, io0, H0, L, io, e, S, fr, q⟩
/-- x = e -/
def sAsg (i : Nat) (f : DE) : DS := sBind f fun e d S => .nx (e.set i (.va d)) S
theorem qs_asg (hN : X.N.Nodup) (i : Nat) {pos' : Pos} (h : QE X W a f) (hi : X.N[i]? = some x := by rfl) (hx : Loc X.env.scope x := by first | exact Or.inl rfl | exact Or.inr rfl) (hs : swapsWith a (some (.Name x pos')) pos.line X.env = pure false := by rfl) (hf : X.fn x = true ∨ X.env.scope.names.lookup x = some .local := by first | exact .inl rfl | exact .inr rfl) :
    QS X W (.Assign [.Name x pos'] a pos) (sAsg i f) := ps_imp (ps_set hN hi hx h hs hf) fun D g H h => by
  refine rds_bind (R := VR X.K) (k := fun e d S => .nx (e.set i (.va d)) S) h fun L0 io0 H0 L io H1 e S d v fr r q => ?_
  exact q _ H1 L io (Stw.refl ..) (fr.setV i r)
/-- targets of any form -/
def sAsgG (gd : DG) (f : DE) : DS := sBind f fun e d S => match gd d e with
  | some e' => .nx e' S
  | none => .no
theorem qs_asgG {tg : Expr} {gd : DG} {vs : List Nat} (h : QE X W a f) (hg : QG X tg gd vs) (hs : swapsWithSole [tg] a pos.line X.env = pure false := by rfl) (hw : swappedStores [tg] a X.env = pure none := by rfl)
    (hp : ∀ {te g}, PE X a te → PG X tg g → PS X (.Assign [tg] a pos) (tAsg te g) := by intro _ _ h1 h2; exact ps_asg h1 h2) : QS X W (.Assign [tg] a pos) (sAsgG gd f) := ps_imp (hp h hg.canon) fun D g H h => by
  refine rds_bind (R := VR X.K) (k := fun e d S => match gd d e with
    | some e' => .nx e' S
    | none => .no) h fun L0 io0 H0 L io H1 e S d v fr r q => ?_
  cases hd : gd d e with
  | none => rw [hd] at q; exact q.elim
  | some e' =>
    rw [hd] at q
    exact ⟨L0, io0, H0, L, io, e, S, d, e', fr, r, hd, fun g' fr' _ _ => q g' H1 L io (Stw.refl ..) fr'⟩
/-- x, y = e1, e2 -/
def sPar (i j : Nat) (fa : DA) : DS := sBind fa fun e l S => match l with
  | [d1, d2] => .nx ((e.set i (.va d1)).set j (.va d2)) S
  | _ => .no
theorem qs_par {y : Str} {px py pt : Pos} {kt k2 pt2} {fa : DA} (hc : X.calm = true) (hN : X.N.Nodup) (i j : Nat) (ha : QA X W [a, b] fa) (hi : X.N[i]? = some x := by rfl) (hj : X.N[j]? = some y := by rfl) (hij : i ≠ j := by decide)
    (hx : X.env.scope.names.lookup x = some .local := by rfl) (hy : X.env.scope.names.lookup y = some .local := by rfl)
    (hw : swappedStores [.Tuple [.Name x px, .Name y py] kt pt] (.Tuple [a, b] k2 pt2) X.env = pure (some [x, y]) := by rfl)
    (hs : swapsWithSole [.Tuple [.Name x px, .Name y py] kt pt] (.Tuple [a, b] k2 pt2) pos.line X.env = pure false := by rfl) :
    QS X W (.Assign [.Tuple [.Name x px, .Name y py] kt pt] (.Tuple [a, b] k2 pt2) pos) (sPar i j fa) := ps_imp (ps_par hc hN hi hj hij hx hy ha hw hs) fun D g H h => by
  refine rds_bind (R := VRs X.K) (k := fun e l S => match l with
    | [d1, d2] => .nx ((e.set i (.va d1)).set j (.va d2)) S
    | _ => .no) h fun L0 io0 H0 L io H1 e S d v fr r q => ?_
  cases r with
  | nil => exact q.elim
  | cons r1 t1 =>
    cases t1 with
    | nil => exact q.elim
    | cons r2 t2 =>
      cases t2 with
      | cons => exact q.elim
      | nil => exact ⟨_, _, rfl, q _ H1 L io (Stw.refl ..) ((fr.setV i r1).setV j r2)⟩
def sPar3 (i j k : Nat) (fa : DA) : DS := sBind fa fun e l S => match l with
  | [d1, d2, d3] => .nx (((e.set i (.va d1)).set j (.va d2)).set k (.va d3)) S
  | _ => .no
theorem qs_par3 {y z : Str} {px py pz pt : Pos} {kt k2 pt2} {fa : DA} (hc : X.calm = true) (hN : X.N.Nodup) (i j k : Nat) (ha : QA X W [a, b, c] fa) (hi : X.N[i]? = some x := by rfl) (hj : X.N[j]? = some y := by rfl) (hk : X.N[k]? = some z := by rfl) (hij : i ≠ j := by decide) (hik : i ≠ k := by decide) (hjk : j ≠ k := by decide)
    (hx : X.env.scope.names.lookup x = some .local := by rfl) (hy : X.env.scope.names.lookup y = some .local := by rfl) (hz : X.env.scope.names.lookup z = some .local := by rfl)
    (hw : swappedStores [.Tuple [.Name x px, .Name y py, .Name z pz] kt pt] (.Tuple [a, b, c] k2 pt2) X.env = pure (some [x, y, z]) := by rfl)
    (hs : swapsWithSole [.Tuple [.Name x px, .Name y py, .Name z pz] kt pt] (.Tuple [a, b, c] k2 pt2) pos.line X.env = pure false := by rfl) :
    QS X W (.Assign [.Tuple [.Name x px, .Name y py, .Name z pz] kt pt] (.Tuple [a, b, c] k2 pt2) pos) (sPar3 i j k fa) := ps_imp (ps_par3 hc hN hi hj hk hij hik hjk hx hy hz ha hw hs) fun D g H h => by
  refine rds_bind (R := VRs X.K) (k := fun e l S => match l with
    | [d1, d2, d3] => .nx (((e.set i (.va d1)).set j (.va d2)).set k (.va d3)) S
    | _ => .no) h fun L0 io0 H0 L io H1 e S d v fr r q => ?_
  cases r with
  | nil => exact q.elim
  | cons r1 t1 =>
    cases t1 with
    | nil => exact q.elim
    | cons r2 t2 =>
      cases t2 with
      | nil => exact q.elim
      | cons r3 t3 =>
        cases t3 with
        | cons => exact q.elim
        | nil => exact ⟨_, _, _, rfl, q _ H1 L io (Stw.refl ..) (((fr.setV i r1).setV j r2).setV k r3)⟩
/-- x = a new list: the slot's own -/
def sOwn (i : Nat) (f : DL) : DS := sBind f fun e l S => .nx (e.set i (.ow l)) S
/-- .. a handle -/
def sNew (i : Nat) (f : DL) : DS := sBind f fun e l S => .nx (e.set i (.va (.hdl S.length))) (S ++ [.lst l])
end
/-- a new list becomes a handle's -/
theorem SR.addO {K : PySem.W.Frag} {L : Addr → Prop} {io : List Addr} {H : Hp} {S : Sto} {p : Addr} {ob : Ob} (sr : SR K L io H S) (lp : L p) (np : p ∉ io) (h1 : ObR K L io H p ob) : SR K L (io ++ [p]) H (S ++ [ob]) := by
  have on : ∀ v d, VR K L io H v d → VR K L (io ++ [p]) H v d := fun v d r => VR.on (fun _ _ h => io_keep h) (fun a o e n => ⟨e, n⟩) r
  refine ⟨by rw [List.length_append, List.length_append, sr.len]; rfl, ?_, fun a h => ?_, sr.dom, fun k a o h3 h4 => ?_⟩
  · rw [List.nodup_append]
    exact ⟨sr.nd, by simp, fun a ha b hb => by simp at hb; subst hb; exact fun z => np (by rw [← z]; exact ha)⟩
  · rcases List.mem_append.mp h with z | z
    · exact sr.sub a z
    · simp at z; subst z; exact lp
  · by_cases hk : k < io.length
    · rw [List.getElem?_append_left hk] at h3
      rw [List.getElem?_append_left (by rw [← sr.len]; exact hk)] at h4
      exact (sr.obj k a o h3 h4).mono (fun _ e => e) on
    · have hk2 : io.length ≤ k := by omega
      rw [List.getElem?_append_right hk2] at h3
      rw [List.getElem?_append_right (by rw [← sr.len]; exact hk2), ← sr.len] at h4
      cases hd : k - io.length with
      | zero =>
        rw [hd] at h3 h4
        cases h3; cases h4
        exact h1.mono (fun _ e => e) on
      | succ n => rw [hd] at h3; simp at h3
theorem SR.addH {K : PySem.W.Frag} {L : Addr → Prop} {io : List Addr} {H : Hp} {S : Sto} {p : Addr} {xs : List V} {l : List Dv} (sr : SR K L io H S) (lp : L p) (np : p ∉ io) (h1 : H p = some (.lst xs)) (h2 : VRs K L io H xs l) : SR K L (io ++ [p]) H (S ++ [.lst l]) := sr.addO lp np ⟨xs, h1, h2⟩
section
variable {X : Cx} {W : WX} {pos : Pos} {a : Expr} {f : DL} {x : Str}
theorem FR.setH {K : PySem.W.Frag} {L0 L L1 : Addr → Prop} {io0 io io1 : List Addr} {H0 H H1 : Hp} {g : St} {e : Env} {S S1 : Sto} (fr : FR K L0 io0 H0 L io H g e S) (s : Stp L io H L1 io1 H1) (sr : SR K L1 io1 H1 S1) {v : V} {l : List Dv} (n : NewL K H L1 io1 H1 v l) :
    ∃ io2, Stp L io H L1 io2 H1 ∧ Stw L1 io1 H1 L1 io2 H1 ∧ SR K L1 io2 H1 (S1 ++ [.lst l]) ∧ VR K L1 io2 H1 v (.hdl S1.length) := by
  obtain ⟨p, xs, rfl, hp, lp, np, h1, h2⟩ := n
  have sr2 := sr.addH lp np h1 h2
  refine ⟨io1 ++ [p], ⟨?_, fun x hx => ?_, s.new, s.keep, s.up⟩, ⟨⟨[p], rfl⟩, fun _ h => .inl h, fun _ _ h _ => h⟩, sr2, .hdl (by rw [← sr.len]; simp)⟩
  · obtain ⟨m, rfl⟩ := s.pre
    exact ⟨m ++ [p], by simp⟩
  · rcases List.mem_append.mp hx with z | z
    · exact s.hn x z
    · simp at z; subst z; exact .inr hp
/-- a new list as a handle, as a value -/
def eNew (f : DL) : DE := fun e S => bnd (f e S) fun l S' => .ok (.hdl S'.length) (S' ++ [.lst l])
theorem qe_new (h : QF X W a f) : QE X W a (eNew f) := pe_imp h fun g H Q q => by
  obtain ⟨L0, io0, H0, L, io, e, S, fr, q⟩ := q
  refine ⟨L0, io0, H0, L, io, e, S, fr, ?_⟩
  have q : Fin X.K W (VR X.K) g L io H Q (bnd (f e S) fun l S' => .ok (.hdl S'.length) (S' ++ [.lst l])) := q
  cases hf : f e S with
  | no => rw [hf] at q; exact q
  | ex c fs S' => rw [hf] at q; exact q
  | ok l S' =>
    rw [hf] at q
    intro v H' L' io' s sr n
    obtain ⟨io2, s2, w2, sr2, r2⟩ := fr.setH s sr n
    exact q v H' L' io2 s2 sr2 r2
end
/-- what is a slot's own is own no more -/
def frzO : Ob → Dv
  | .lst l => .lst l
  | .dct l => .dic l
  | .ins c fs => .obj c fs
def sFrz (i : Nat) : DS := fun e S => match e[i]? with
  | some (.own o) => .nx (e.set i (.va (frzO o))) S
  | _ => .no
theorem vrp_of {K : PySem.W.Frag} {L : Addr → Prop} {io : List Addr} {H : Hp} : ∀ {kvs : List (Key × V)} {l : List (Key × Dv)}, PairR (VR K L io H) kvs l → VRp K L io H kvs l
  | _, _, .nil => .nil
  | (k, v) :: _, (k', d) :: _, .cons ⟨h1, h2⟩ t => by
    cases (show k = k' from h1)
    exact .cons h2 (vrp_of t)
theorem vrf_of {K : PySem.W.Frag} {L : Addr → Prop} {io : List Addr} {H : Hp} : ∀ {kvs : List (Str × V)} {l : List (Str × Dv)}, PairR (VR K L io H) kvs l → VRf K L io H kvs l
  | _, _, .nil => .nil
  | (k, v) :: _, (k', d) :: _, .cons ⟨h1, h2⟩ t => by
    cases (show k = k' from h1)
    exact .cons h2 (vrf_of t)
theorem of_vrf {K : PySem.W.Frag} {L : Addr → Prop} {io : List Addr} {H : Hp} : ∀ {kvs : List (Str × V)} {l : List (Str × Dv)}, VRf K L io H kvs l → PairR (VR K L io H) kvs l
  | _, _, .nil => .nil
  | _, _, .cons h t => .cons ⟨rfl, h⟩ (of_vrf t)
theorem ObR.frz {K : PySem.W.Frag} {L : Addr → Prop} {io : List Addr} {H : Hp} {p : Addr} {o : Ob} (h : ObR K L io H p o) (n : ¬ L p) : VR K L io H (.ref p) (frzO o) := by
  cases o with
  | lst l => obtain ⟨xs, h1, h2⟩ := h; exact .lst n h1 h2
  | dct l => obtain ⟨xs, h1, h2⟩ := h; exact .dic n (.inl h1) (vrp_of h2)
  | ins c fs => obtain ⟨dx, xs, h1, h2⟩ := h; exact .obj n h1 (vrf_of h2)
theorem FR.frz {K : PySem.W.Frag} {L0 L : Addr → Prop} {io0 io : List Addr} {H0 H : Hp} {g : St} {e : Env} {S : Sto} (fr : FR K L0 io0 H0 L io H g e S) {i : Nat} {o : Ob} (h : e[i]? = some (.own o)) :
    ∃ p, g[i]? = some (some (.ref p)) ∧ FR K L0 io0 H0 (Lz L p) io H g (e.set i (.va (frzO o))) S ∧ Stw L io H (Lz L p) io H := by
  obtain ⟨p, h1, h2, h3, h4, h5⟩ := fr.own i o h
  have hl : ∀ a, Lz L p a → L a := fun a z => z.1
  have on : ∀ v d, VR K L io H v d → VR K (Lz L p) io H v d := fun v d r => r.less hl
  have hi : i < e.length := (List.getElem?_eq_some_iff.mp h).1
  have ne : ∀ j q, j ≠ i → (∀ d, e[j]? ≠ some (.va d)) → e[j]? ≠ some .no → g[j]? = some (some (.ref q)) → q ≠ p := fun j q hj v1 v2 hg z => by
    subst z
    exact fr.inj i j q (fun z => hj z.symm) (by rw [h]; intro d z; cases z) v1 (by rw [h]; intro z; cases z) v2 h1 hg
  refine ⟨p, h1, ⟨fr.st.less hl fun a ha => ⟨fr.st.sub a ha, fun z => h3 (by rw [← z]; exact ha)⟩, by rw [List.length_set]; exact fr.len, fun j d hj => ?_, fun j m hj => ?_, fun j k q hjk v1 v2 n1 n2 g1 g2 => ?_, ⟨fr.en.pre, fr.en.hn, fun a z => fr.en.new a z.1, fr.en.keep, fun a z => ⟨fr.en.up a z, fun e => ?_⟩⟩, fr.sub0, fr.dom0⟩, ⟨⟨[], by simp⟩, fun a z => .inl z.1, fun _ _ e _ => e⟩⟩
  · rcases set_get hj with ⟨rfl, e1, e2⟩ | ⟨e1, e2⟩
    · cases e1
      exact ⟨.ref p, h1, (ObR.mono (o := o) h5 (fun _ h => h) on).frz fun z => z.2 rfl⟩
    · obtain ⟨v, r1, r2⟩ := fr.va j d e2
      exact ⟨v, r1, on _ _ r2⟩
  · rcases set_get hj with ⟨rfl, e1, e2⟩ | ⟨e1, e2⟩
    · cases e1
    · obtain ⟨q, r1, r2, r3, r4, r5⟩ := fr.own j m e2
      exact ⟨q, r1, ⟨r2, ne j q e1 (by rw [e2]; intro d z; cases z) (by rw [e2]; intro z; cases z) r1⟩, r3, r4, ObR.mono (o := m) r5 (fun _ h => h) on⟩
  · have hj : j ≠ i := fun z => by subst z; exact v1 _ (set_at hi)
    have hk : k ≠ i := fun z => by subst z; exact v2 _ (set_at hi)
    rw [set_ne hj] at v1 n1
    rw [set_ne hk] at v2 n2
    exact fr.inj j k q hjk v1 v2 n1 n2 g1 g2
  · rw [← e] at h4
    exact fr.dom0 a z h4
end DL
namespace DL
open PySem L2
def forR (gd : DG) (body : DS) : List Dv → Env → Sto → Out
  | [], e, S => .nx e S
  | d :: ds, e, S => match gd d e with
    | none => .no
    | some e' => match body e' S with
      | .nx e1 S1 => forR gd body ds e1 S1
      | .ct e1 S1 => forR gd body ds e1 S1
      | .bk e1 S1 => .nx e1 S1
      | o => o
def sFor (fi : DL) (gd : DG) (body : DS) : DS := sBind fi fun e ds S => forR gd body ds e S
theorem rds_bindI {K : PySem.W.Frag} {W : WX} {f : DL} {k : Env → List Dv → Sto → Out} {D : Ends} {g : St} {H : Hp} {P : It → Hp → Prop} (h : rds K W (sBind f k) D g H)
    (n : ∀ (L0 : Addr → Prop) (io0 : List Addr) (H0 : Hp) (L : Addr → Prop) (io : List Addr) (H1 : Hp) (e : Env) (S : Sto) (a : List Dv) (J : It), FR K L0 io0 H0 L io H1 g e S → WalkR K L io H1 J a → outR K W L0 io0 H0 D L io H1 (k e a S) → P J H1) : rdi K W f g H P := by
  obtain ⟨L0, io0, H0, L, io, e, S, fr, h⟩ := h
  unfold sBind at h
  refine ⟨L0, io0, H0, L, io, e, S, fr, ?_⟩
  cases hf : f e S with
  | ok a S1 =>
    rw [hf] at h
    intro v H1 L1 io1 s1 sr1 r1
    exact n L0 io0 H0 L1 io1 H1 e S1 a v (fr.step s1 sr1) r1 (outR.later h (s1.stw fr.st.sub))
  | ex c fs S1 =>
    rw [hf] at h
    exact fun x H' L' io' s sr r => h x g H' L' io' (s.stw fr.st.sub) (fr.step s sr) r
  | no => rw [hf] at h; exact h
theorem rd_for {K : PySem.W.Frag} {W : WX} {fi : DL} {gd : DG} {body : DS} {vs : List Nat} {D : Ends} {g : St} {H : Hp} (h : rds K W (sFor fi gd body) D g H) : tFor (rdi K W fi) (tgR K gd vs) (rds K W body) D g H := by
  refine rds_bindI (k := fun e ds S => forR gd body ds e S) h fun L0 io0 H0 L1 io1 H1 e S ds J fr wk q => ?_
  refine ⟨fun i m g' H' => m = ds.length - i ∧ i ≤ ds.length ∧ ∃ (L' : Addr → Prop) (io' : List Addr) (e' : Env) (S' : Sto), FR K L0 io0 H0 L' io' H' g' e' S' ∧ Stw L1 io1 H1 L' io' H' ∧ outR K W L0 io0 H0 D L' io' H' (forR gd body (ds.drop i) e' S'),
    ⟨ds.length, by simp, Nat.zero_le _, L1, io1, e, S, fr, Stw.refl .., by rw [List.drop_zero]; exact q⟩, ?_⟩
  rintro i m g' H' ⟨rfl, hi, L', io', e', S', fr', sw, q⟩
  by_cases hlt : i < ds.length
  · obtain ⟨d, hd⟩ : ∃ d, ds[i]? = some d := ⟨_, List.getElem?_eq_getElem hlt⟩
    have hdrop : ds.drop i = d :: ds.drop (i + 1) := by
      rw [List.drop_eq_getElem_cons hlt]
      rw [List.getElem?_eq_getElem hlt] at hd
      cases hd
      rfl
    rw [hdrop] at q
    simp only [forR] at q
    obtain ⟨hgo, hy⟩ := wk.go L' io' H' S' i d sw fr'.st hd
    refine .inr ⟨hgo, fun g'' H'' => ∃ m', m' < ds.length - i ∧ (m' = ds.length - (i + 1) ∧ i + 1 ≤ ds.length ∧ ∃ (L' : Addr → Prop) (io' : List Addr) (e' : Env) (S' : Sto), FR K L0 io0 H0 L' io' H'' g'' e' S' ∧ Stw L1 io1 H1 L' io' H'' ∧ outR K W L0 io0 H0 D L' io' H'' (forR gd body (ds.drop (i + 1)) e' S')), fun _ _ h => h, fun x H2 y => ?_⟩
    obtain ⟨sr2, sp2, r2⟩ := hy x H2 y
    have fr2 := fr'.step sp2 sr2
    have sw2 := sw.trans (sp2.stw fr'.st.sub)
    cases hg : gd d e' with
    | none => rw [hg] at q; exact q.elim
    | some e2 =>
      rw [hg] at q
      simp only at q
      refine ⟨L0, io0, H0, L', io', e', S', d, e2, fr2, r2, hg, fun g3 fr3 _ _ => ⟨L0, io0, H0, L', io', e2, S', fr3, ?_⟩⟩
      cases hb : body e2 S' with
      | nx e1 S1 =>
        rw [hb] at q
        exact fun g4 H4 L4 io4 s4 fr4 => ⟨_, by omega, rfl, hlt, L4, io4, e1, S1, fr4, sw2.trans s4, outR.later q ((sp2.stw fr'.st.sub).trans s4)⟩
      | ct e1 S1 =>
        rw [hb] at q
        exact fun g4 H4 L4 io4 s4 fr4 => ⟨_, by omega, rfl, hlt, L4, io4, e1, S1, fr4, sw2.trans s4, outR.later q ((sp2.stw fr'.st.sub).trans s4)⟩
      | bk e1 S1 =>
        rw [hb] at q
        exact fun g4 H4 L4 io4 s4 fr4 => q g4 H4 L4 io4 ((sp2.stw fr'.st.sub).trans s4) fr4
      | rt d1 S1 => rw [hb] at q; exact q
      | ex c fs e1 S1 =>
        rw [hb] at q
        exact fun x g4 H4 L4 io4 s4 fr4 r4 => q x g4 H4 L4 io4 ((sp2.stw fr'.st.sub).trans s4) fr4 r4
      | no => rw [hb] at q; exact q
  · have ei : i = ds.length := by omega
    subst ei
    rw [List.drop_length] at q
    exact .inl ⟨wk.stop L' io' H' sw, q g' H' L' io' (Stw.refl ..) fr'⟩
section
variable {X : Cx} {W : WX} {pos : Pos} {tg iter : Expr} {body : List Stmt} {fi : DL} {gd : DG} {fb : DS} {vs : List Nat}
theorem qs_for (hp : PassesOwn (model X.prog X.w) X.A X.env X.xe) (hc : X.calm = true) (hi : QI X W tg iter fi) (hg : QG X tg gd vs) (hb : QSs X W body fb) (hs : ∀ x, foldedSetIterable iter X.env x = pure x := by intro _; rfl) : QS X W (.For tg iter body [] pos) (sFor fi gd fb) :=
  ps_imp (ps_for hp hc hi hg.canon hb hs) fun D g H h => rd_for h
/-- a slot's own list is changed -/
theorem FR.ownO {K : PySem.W.Frag} {L0 L : Addr → Prop} {io0 io : List Addr} {H0 H : Hp} {g : St} {e : Env} {S : Sto} (fr : FR K L0 io0 H0 L io H g e S) {i : Nat} {o o' : Ob} {p : Addr} {u : HO} (h : e[i]? = some (.own o)) (hg : g[i]? = some (some (.ref p))) (lp : L p) (np : p ∉ io) (h0 : H0 p = none) (r : ObR K L io (upd H p u) p o') :
    FR K L0 io0 H0 L io (upd H p u) g (e.set i (.own o')) S := by
  have hi : i < e.length := (List.getElem?_eq_some_iff.mp h).1
  have eg : g.set i (some (.ref p)) = g := by
    apply List.ext_getElem?
    intro k
    rw [List.getElem?_set]
    by_cases hk : i = k
    · subst hk
      rw [if_pos rfl, if_pos (by rw [fr.len]; exact hi), hg]
    · rw [if_neg hk]
  have f1 := (fr.setN i (some (.ref p))).mutD (o := u) lp np h0 fun j q v1 v2 v3 hj => by
    have hji : j ≠ i := fun z => by subst z; exact v2 (set_at hi)
    rw [set_ne hji] at v1 v2 v3 hj
    intro z
    subst z
    exact fr.inj i j q (fun z => hji z.symm) (by rw [h]; intro d z; cases z) v1 (by rw [h]; intro z; cases z) v2 hg hj
  have f2 := f1.setS i (x := some (.ref p)) (s := .own o') (fun d z => by cases z) (fun l2 z => by cases z; exact ⟨p, rfl, lp, np, h0, r⟩) fun q _ _ hq j hj v1 v2 hgj => by
    cases hq
    rw [set_ne hj] at v1 v2 hgj
    exact fr.inj i j p (fun z => hj z.symm) (by rw [h]; intro d z; cases z) v1 (by rw [h]; intro z; cases z) v2 hg hgj
  rw [List.set_set, List.set_set, eg] at f2
  exact f2
theorem FR.ownL {K : PySem.W.Frag} {L0 L : Addr → Prop} {io0 io : List Addr} {H0 H : Hp} {g : St} {e : Env} {S : Sto} (fr : FR K L0 io0 H0 L io H g e S) {i : Nat} {l l' : List Dv} {p : Addr} {ys : List V} (h : e[i]? = some (.ow l)) (hg : g[i]? = some (some (.ref p))) (lp : L p) (np : p ∉ io) (h0 : H0 p = none) (r : VRs K L io H ys l') :
    FR K L0 io0 H0 L io (upd H p (.lst ys)) g (e.set i (.ow l')) S := fr.ownO h hg lp np h0 ⟨ys, upd_same, r.mut lp⟩
end
/-- a list's method by data: the list, the arguments; the list behind it, the answer -/
def OwnS (K : PySem.W.Frag) (r : V → List V → Hp → VK → Prop) (h : List Dv → List Dv → Option (List Dv × Dv)) : Prop :=
  ∀ (L : Addr → Prop) (io : List Addr) (H : Hp) (S : Sto) (p : Addr) (xs : List V) (l : List Dv) (vs : List V) (as l' : List Dv) (d : Dv) (Q : VK), SR K L io H S → H p = some (.lst xs) → L p → VRs K L io H xs l → VRs K L io H vs as → h l as = some (l', d) →
    (∀ ys v, VRs K L io H ys l' → VR K L io H v d → Q v (upd H p (.lst ys))) → r (.ref p) vs H Q
def sOwnM (h : List Dv → List Dv → Option (List Dv × Dv)) (i : Nat) (fa : DA) : DS := fun e S => match e[i]? with
  | some (.own (.lst l)) => sBind fa (fun e as S => match h l as with
    | some (l', _) => .nx (e.set i (.ow l')) S
    | none => .no) e S
  | _ => .no
theorem rd_ownM {K : PySem.W.Frag} {W : WX} {r : V → List V → Hp → VK → Prop} {h : List Dv → List Dv → Option (List Dv × Dv)} (hs : OwnS K r h) {fa : DA} {i : Nat} {D : Ends} {g : St} {H : Hp} (q : rds K W (sOwnM h i fa) D g H) : tDrop (tBM K "list" r (tVar i) (rda K W fa)) D g H := by
  obtain ⟨L0, io0, H0, L, io, e, S, fr, q⟩ := q
  unfold sOwnM at q
  cases hi : e[i]? with
  | none => rw [hi] at q; exact q.elim
  | some sl =>
    by_cases hl : ∃ l, sl = .ow l
    · obtain ⟨l, rfl⟩ := hl
      rw [hi] at q
      simp only at q
      obtain ⟨p, xs, h1, h2, h3, h4, h5, h6⟩ := fr.ow i l hi
      refine ⟨.ref p, h1, .inl ⟨rfl, xs, SqL.of h5⟩, ?_⟩
      refine ⟨L0, io0, H0, L, io, e, S, fr, ?_⟩
      simp only [sBind] at q
      cases hf : fa e S with
      | no => rw [hf] at q; exact q
      | ex c fs S1 => rw [hf] at q; exact fun x H' L' io' s sr r => q x g H' L' io' (s.stw fr.st.sub) (fr.step s sr) r
      | ok as S1 =>
        rw [hf] at q
        intro vs H1 L1 io1 s1 sr1 r1
        simp only at q
        cases hh : h l as with
        | none => rw [hh] at q; exact q.elim
        | some z =>
          obtain ⟨l', d⟩ := z
          rw [hh] at q
          have fr1 := fr.step s1 sr1
          have np : p ∉ io1 := fun z => by
            rcases s1.hn p z with q | q
            · exact h3 q
            · rw [q] at h5; cases h5
          refine hs L1 io1 H1 S1 p xs l vs as l' d _ sr1 (s1.keep p _ h5 h3) (s1.up p h2) (h6.step s1 fr.st.sub) r1 hh fun ys v ry rv => ?_
          exact q g _ L1 io1 ((s1.stw fr.st.sub).trans (Stw.mut (s1.up p h2))) (fr1.ownL hi h1 (s1.up p h2) np h4 ry)
    · rw [hi] at q
      rcases sl with _ | _ | (l | _ | _)
      · exact q.elim
      · exact q.elim
      · exact absurd ⟨l, rfl⟩ hl
      · exact q.elim
      · exact q.elim
theorem SR.setH {K : PySem.W.Frag} {L : Addr → Prop} {io : List Addr} {H : Hp} {S : Sto} {k : Nat} {a : Addr} {ob : Ob} {o : HO} (sr : SR K L io H S) (hk : io[k]? = some a) (r : ObR K L io (upd H a o) a ob) : SR K L io (upd H a o) (S.set k ob) := by
  have la : L a := sr.sub a (List.mem_of_getElem? hk)
  refine ⟨by rw [List.length_set]; exact sr.len, sr.nd, sr.sub, fun b hb => ?_, fun j b u h1 h2 => ?_⟩
  · by_cases e : b = a
    · rw [e, upd_same]; exact fun z => nomatch z
    · rw [upd_ne e]; exact sr.dom b hb
  · rcases set_get h2 with ⟨rfl, rfl, _⟩ | ⟨e1, e2⟩
    · rw [hk] at h1; cases h1; exact r
    · refine (sr.obj j b u h1 e2).mono (fun z ez => ?_) fun v d rv => rv.mut la
      rw [upd_ne (fun z => e1 ?_)]
      · exact ez
      · rw [← z] at hk
        obtain ⟨q1, q2⟩ := List.getElem?_eq_some_iff.mp h1
        obtain ⟨q3, q4⟩ := List.getElem?_eq_some_iff.mp hk
        exact (List.getElem_inj sr.nd).mp (q2.trans q4.symm)
theorem Stp.mutH {L : Addr → Prop} {io : List Addr} {H : Hp} {a : Addr} {o : HO} (h : a ∈ io) : Stp L io H L io (upd H a o) :=
  ⟨⟨[], by simp⟩, fun _ h => .inl h, fun _ h => .inl h, fun b u e n => by rw [upd_ne (fun z => n (by rw [z]; exact h))]; exact e, fun _ h => h⟩
def hdlM (h : List Dv → List Dv → Option (List Dv × Dv)) (S : Sto) (o : Dv) (as : List Dv) : Res Dv := match o with
  | .hdl k => match S[k]? with
    | some (.lst l) => match h l as with
      | some (l', d) => .ok d (S.set k (.lst l'))
      | none => .no
    | _ => .no
  | _ => .no
def lstHd (S : Sto) : Dv → Bool
  | .hdl k => match S[k]? with
    | some (.lst _) => true
    | _ => false
  | _ => false
def eHdlM (h : List Dv → List Dv → Option (List Dv × Dv)) (fo : DE) (fa : DA) : DE := fun e S => bnd (fo e S) fun o S1 => if lstHd S1 o then bnd (fa e S1) fun as S2 => hdlM h S2 o as else .no
theorem rd_hdlM {K : PySem.W.Frag} {W : WX} {r : V → List V → Hp → VK → Prop} {h : List Dv → List Dv → Option (List Dv × Dv)} (hs : OwnS K r h) {fo : DE} {fa : DA} {g : St} {H : Hp} {Q : VK} (q : rd K W (eHdlM h fo fa) g H Q) : tBM K "list" r (rd K W fo) (rda K W fa) g H Q := by
  refine Rdg.bind (R := VR K) (k := fun e o S1 => if lstHd S1 o then bnd (fa e S1) fun as S2 => hdlM h S2 o as else .no) q fun L0 io0 H0 L io H1 e S o v fr ro q => ?_
  cases hl : lstHd S o with
  | false => rw [hl] at q; exact q.elim
  | true =>
    rw [hl] at q
    cases o with
    | hdl k =>
      cases ro with
      | hdl hk =>
        rename_i a
        simp only [lstHd] at hl
        cases hS : S[k]? with
        | none => rw [hS] at hl; cases hl
        | some ob =>
          rw [hS] at hl
          cases ob with
          | lst l =>
            obtain ⟨xs, e1, _⟩ := fr.st.obj k a _ hk hS
            refine ⟨.inl ⟨rfl, xs, SqL.of e1⟩, ?_⟩
            refine Fin.bind (R := VRs K) (k := fun as S2 => hdlM h S2 (.hdl k) as) fr q fun L2 io2 H2 S2 as vs s2 fr2 r2 q => ?_
            simp only [hdlM] at q
            have hk2 : io2[k]? = some a := by
              obtain ⟨m, rfl⟩ := s2.pre
              exact io_keep hk
            cases hS2 : S2[k]? with
            | none => rw [hS2] at q; exact q.elim
            | some ob2 =>
              rw [hS2] at q
              cases ob2 with
              | lst l2 =>
                simp only at q
                cases hh : h l2 as with
                | none => rw [hh] at q; exact q.elim
                | some z =>
                  obtain ⟨l', d⟩ := z
                  rw [hh] at q
                  obtain ⟨ys, e2, r3⟩ := fr2.st.obj k a _ hk2 hS2
                  have ma : a ∈ io2 := List.mem_of_getElem? hk2
                  have la : L2 a := fr2.st.sub a ma
                  refine hs L2 io2 H2 S2 a ys l2 vs as l' d Q fr2.st e2 la r3 r2 hh fun zs w rz rw' => ?_
                  exact q w _ L2 io2 (Stp.mutH ma) (fr2.st.setH hk2 ⟨zs, upd_same, rz.mut la⟩) (rw'.mut la)
              | _ => exact q.elim
          | _ => cases hl
    | _ => simp [lstHd] at hl
/-- append, extend, insert, reverse -/
def appD (l as : List Dv) : Option (List Dv × Dv) := match as with
  | [d] => if l.length < sizeLine then some (l ++ [d], .non) else none
  | _ => none
theorem owns_app {K : PySem.W.Frag} : OwnS K rAppend appD := by
  intro L io H S p xs l vs as l' d Q sr hp lp rx ra hh q
  cases ra with
  | nil => cases hh
  | cons r t =>
    cases t with
    | cons => cases hh
    | nil =>
      simp only [appD] at hh
      split at hh
      · rename_i hl
        cases hh
        exact ⟨p, xs, _, rfl, rfl, hp, by rw [rx.len]; exact hl, q _ _ (rx.app (.cons r .nil)) .non⟩
      · cases hh
section
variable {X : Cx} {W : WX} {pos apos cpos p1 : Pos} {a o e : Expr} {es : List Expr} {f fo fv : DE} {fa : DA} {x name : Str} {id : String} {r : V → List V → Hp → VK → Prop} {h : List Dv → List Dv → Option (List Dv × Dv)}
/-- found.m(..), found the slot's own -/
theorem qs_ownM (i : Nat) (slot : Slot "list" name id) (hty : typeOf (.builtin id) = pure (.type "method_descriptor")) (hm : MtR X id r) (hs : OwnS X.K r h) (ha : QA X W (e :: es) fa)
    (hN : X.N[i]? = some x := by rfl) (hv : Vis X.env.scope x := by first | exact Or.inl rfl | exact Or.inr (Or.inl rfl) | exact Or.inr (Or.inr rfl))
    (hd : (x == ("__debug__" : Str)) = false := by decide) (hcd : (x == ("__classdict__" : Str)) = false := by decide)
    (hbase : attributeBase (.Name x p1) name X.env (eval (.Name x p1) X.env) = eval (.Name x p1) X.env := by rfl)
    (hfew : ((backTo cpos (starEach (e :: es) X.env)).all (fun x => !x.1) && (backToKw cpos (keywordEach [] X.env)).all (fun x => x.1.isSome)
      && decide ((e :: es).length + ([] : List Keyword).length + (if ([] : List Keyword).isEmpty then 0 else 1) < 30)) = true := by rfl)
    (hline : (apos.endLine == cpos.line) = true := by rfl) (hst : starEach (e :: es) X.env = (false, eval e X.env) :: starEach es X.env := by rfl) (hplain : (backTo cpos (starEach es X.env)).any (·.1) = false := by rfl)
    (hsw : swapsWith (.Call (.Attribute (.Name x p1) name apos) (e :: es) [] cpos) none pos.line X.env = pure false := by rfl) :
    QS X W (.Expr (.Call (.Attribute (.Name x p1) name apos) (e :: es) [] cpos) pos) (sOwnM h i fa) := ps_imp (ps_expr (pe_bm PySem.F.plainAttrs_list slot hty hm (pe_var hN hv hd hcd) ha hbase hfew hline hst hplain) hsw) fun D g H q => rd_ownM hs q
theorem qe_hdlM (slot : Slot "list" name id) (hty : typeOf (.builtin id) = pure (.type "method_descriptor")) (hm : MtR X id r) (hs : OwnS X.K r h) (ho : QE X W o fo) (ha : QA X W (e :: es) fa)
    (hbase : attributeBase o name X.env (eval o X.env) = eval o X.env := by rfl)
    (hfew : ((backTo cpos (starEach (e :: es) X.env)).all (fun x => !x.1) && (backToKw cpos (keywordEach [] X.env)).all (fun x => x.1.isSome)
      && decide ((e :: es).length + ([] : List Keyword).length + (if ([] : List Keyword).isEmpty then 0 else 1) < 30)) = true := by rfl)
    (hline : (apos.endLine == cpos.line) = true := by rfl) (hst : starEach (e :: es) X.env = (false, eval e X.env) :: starEach es X.env := by rfl) (hplain : (backTo cpos (starEach es X.env)).any (·.1) = false := by rfl) :
    QE X W (.Call (.Attribute o name apos) (e :: es) [] cpos) (eHdlM h fo fa) := pe_imp (pe_bm PySem.F.plainAttrs_list slot hty hm ho ha hbase hfew hline hst hplain) fun g H Q q => rd_hdlM hs q
end
end DL
namespace DL
open PySem L2
theorem outR.bind {α β : Type} {K : PySem.W.Frag} {W : WX} {R : (Addr → Prop) → List Addr → Hp → β → α → Prop} {f : Env → Sto → Res α} {k : Env → α → Sto → Out} {D : Ends} {g : St} {L0 L : Addr → Prop} {io0 io : List Addr} {H0 H : Hp} {e : Env} {S : Sto} {P : β → Hp → Prop}
    (fr : FR K L0 io0 H0 L io H g e S) (h : outR K W L0 io0 H0 D L io H (sBind f k e S))
    (n : ∀ (L1 : Addr → Prop) (io1 : List Addr) (H1 : Hp) (S1 : Sto) (a : α) (v : β), Stp L io H L1 io1 H1 → FR K L0 io0 H0 L1 io1 H1 g e S1 → R L1 io1 H1 v a → outR K W L0 io0 H0 D L1 io1 H1 (k e a S1) → P v H1) : Rdg K W R f g H P := by
  unfold sBind at h
  refine ⟨L0, io0, H0, L, io, e, S, fr, ?_⟩
  cases hf : f e S with
  | ok a S1 =>
    rw [hf] at h
    intro v H1 L1 io1 s1 sr1 r1
    exact n L1 io1 H1 S1 a v s1 (fr.step s1 sr1) r1 (outR.later h (s1.stw fr.st.sub))
  | ex c fs S1 =>
    rw [hf] at h
    exact fun x H' L' io' s sr r => h x g H' L' io' (s.stw fr.st.sub) (fr.step s sr) r
  | no => rw [hf] at h; exact h
def setD (S : Sto) (o i v : Dv) : Option Sto := match o, i with
  | .hdl k, .int n => match S[k]? with
    | some (.lst l) => match ixN l.length n with
      | some j => some (S.set k (.lst (l.set j v)))
      | none => none
    | _ => none
  | _, _ => none
theorem setD_ok {K : PySem.W.Frag} {L : Addr → Prop} {io : List Addr} {H : Hp} {S S' : Sto} {o i v : Dv} {vo vi vv : V} (sr : SR K L io H S) (ro : VR K L io H vo o) (ri : VR K L io H vi i) (rv : VR K L io H vv v) (h : setD S o i v = some S') {Q : Hp → Prop}
    (q : ∀ H', Stp L io H L io H' → SR K L io H' S' → Q H') : rSetL vo vi vv H Q := by
  cases o with
  | hdl k =>
    cases i with
    | int n =>
      simp only [setD] at h
      cases hS : S[k]? with
      | none => rw [hS] at h; cases h
      | some ob =>
        rw [hS] at h
        cases ob with
        | lst l =>
          simp only at h
          cases hj : ixN l.length n with
          | none => rw [hj] at h; cases h
          | some j =>
            rw [hj] at h
            cases h
            cases ri
            cases ro with
            | hdl hk =>
              rename_i a
              obtain ⟨xs, e1, r1⟩ := sr.obj k a _ hk hS
              have ma : a ∈ io := List.mem_of_getElem? hk
              refine ⟨a, xs, n, j, rfl, rfl, e1, by rw [r1.len]; exact hj, ?_⟩
              exact q _ (Stp.mutH ma) (sr.setH hk ⟨_, upd_same, (VRs.set rv j r1).mut (sr.sub a ma)⟩)
        | _ => cases h
    | _ => cases h
  | _ => cases h
def sSetI (fo fi fv : DE) : DS := sBind fv fun e v S1 => sBind fo (fun e o S2 => sBind fi (fun e i S3 => match setD S3 o i v with
  | some S4 => .nx e S4
  | none => .no) e S2) e S1
section
variable {X : Cx} {W : WX} {pos tpos : Pos} {a o i : Expr} {fo fi fv : DE}
theorem qs_setI (ho : QE X W o fo) (hi : QE X W i fi) (hv : QE X W a fv)
    (hp : ∀ {to ti tv}, PE X o to → PE X i ti → PE X a tv → PS X (.Assign [.Subscript o i tpos] a pos) (tAsg tv (gSub to ti rSetL)) := by intro _ _ _ h1 h2 h3; exact ps_asg h3 (pg_sub h1 h2 set_list)) : QS X W (.Assign [.Subscript o i tpos] a pos) (sSetI fo fi fv) := ps_imp (hp ho hi hv) fun D g H h => by
  refine rds_bind (R := VR X.K) (k := fun e v S1 => sBind fo (fun e o S2 => sBind fi (fun e i S3 => match setD S3 o i v with
    | some S4 => .nx e S4
    | none => .no) e S2) e S1) h fun L0 io0 H0 L io H1 e S d v fr rv q => ?_
  refine outR.bind (R := VR X.K) (k := fun e o S2 => sBind fi (fun e i S3 => match setD S3 o i d with
    | some S4 => .nx e S4
    | none => .no) e S2) fr q fun L2 io2 H2 S2 od vo s2 fr2 ro q => ?_
  refine outR.bind (R := VR X.K) (k := fun e i S3 => match setD S3 od i d with
    | some S4 => .nx e S4
    | none => .no) fr2 q fun L3 io3 H3 S3 id vi s3 fr3 ri q => ?_
  cases hS : setD S3 od id d with
  | none => rw [hS] at q; exact q.elim
  | some S4 =>
    rw [hS] at q
    exact setD_ok fr3.st (ro.step s3 fr2.st.sub) ri ((rv.step s2 fr.st.sub).step s3 fr2.st.sub) hS fun H' s sr => q g H' L3 io3 (s.stw fr3.st.sub) (fr3.step s sr)
theorem get_list : PGet X (rIxL X.K) := by
  intro pins s g H x y v u Q I rx ry h
  obtain ⟨p, xs, i, z, rfl, rfl, hq, he, q⟩ := h
  cases rx
  obtain ⟨t, rfl⟩ := ry
  obtain ⟨its, r, pl, hz⟩ := I.list hq
  obtain ⟨j, h1, h2, h3, h4, h5⟩ := atI_get he
  obtain ⟨w, ew, rw'⟩ := r.get h2
  have hl := r.length
  have hn := line63
  have fin : EP X pins g Q w s := ⟨z, H, I, rw', q⟩
  by_cases h0 : 0 ≤ i
  · have hj : i.toNat = j := by
      rw [seqIndex_of h0 h5] at h1
      exact Option.some.inj h1
    exact wpAny_getItem_list pl.isList h0 (by omega) (by rw [hj]; simpa using ew) fin
  · have hj : (i + (its.toArray.size : Int)).toNat = j := by
      rw [seqIndex_neg (by omega) h4] at h1
      rw [List.size_toArray, ← hl]
      exact Option.some.inj h1
    exact wpAny_getItem_list_neg pl.isList (by omega) (by rw [List.size_toArray] <;> omega) (by omega) (by rw [hj]; simpa using ew) fin
def ixL (S : Sto) (d i : Dv) : Option Dv := match i with
  | .int i => (asL S d).bind fun l => atI l i
  | _ => none
def addI : Dv → Dv → Option Dv := iop fun i j => some (.int (i + j))
def subI : Dv → Dv → Option Dv := iop fun i j => some (.int (i - j))
def sAugI (op : Dv → Dv → Option Dv) (fo fi fv : DE) : DS := sBind fo fun e o S1 => sBind fi (fun e i S2 => match ixL S2 o i with
  | some x => sBind fv (fun e y S3 => match op x y with
    | some z => (match setD S3 o i z with
      | some S4 => .nx e S4
      | none => .no)
    | none => .no) e S2
  | none => .no) e S1
def IpS (K : PySem.W.Frag) (t : TIp) (op : Dv → Dv → Option Dv) : Prop := ∀ L io H x y a b d (Q : VK), VR K L io H x a → VR K L io H y b → op a b = some d → (∀ v, VR K L io H v d → Q v H) → t x y H Q
theorem ips_add {K : PySem.W.Frag} : IpS K (ipI fun i j => i + j) addI := by
  intro L io H x y a b d Q ra rb e q
  cases ra with
  | int i =>
    cases rb with
    | int j => cases e; exact ⟨i, j, rfl, rfl, q _ (.int _)⟩
    | _ => cases e
  | _ => cases e
theorem ips_sub {K : PySem.W.Frag} : IpS K (ipI fun i j => i - j) subI := by
  intro L io H x y a b d Q ra rb e q
  cases ra with
  | int i =>
    cases rb with
    | int j => cases e; exact ⟨i, j, rfl, rfl, q _ (.int _)⟩
    | _ => cases e
  | _ => cases e
theorem qs_augI {op : Operator} {tip : TIp} {od : Dv → Dv → Option Dv} (hop : PIp X op tip) (hod : IpS X.K tip od) (ho : QE X W o fo) (hi : QE X W i fi) (hv : QE X W a fv)
    (ha : ∀ ov iv new, augStore i ov iv new = (do holding [new, ov, iv] (setItem ov iv new); release [new, ov, iv] []; pure .next) := by intros; rfl) : QS X W (.AugAssign (.Subscript o i tpos) op a pos) (sAugI od fo fi fv) := ps_imp (ps_augS ho hi get_list hv hop set_list ha) fun D g H h => by
  refine rds_bind (R := VR X.K) (k := fun e o S1 => sBind fi (fun e i S2 => match ixL S2 o i with
    | some x => sBind fv (fun e y S3 => match od x y with
      | some z => (match setD S3 o i z with
        | some S4 => .nx e S4
        | none => .no)
      | none => .no) e S2
    | none => .no) e S1) h fun L0 io0 H0 L io H1 e S d v fr rv q => ?_
  refine outR.bind (R := VR X.K) (k := fun e i S2 => match ixL S2 d i with
    | some x => sBind fv (fun e y S3 => match od x y with
      | some z => (match setD S3 d i z with
        | some S4 => .nx e S4
        | none => .no)
      | none => .no) e S2
    | none => .no) fr q fun L2 io2 H2 S2 di vi s2 fr2 ri q => ?_
  have rv2 := rv.step s2 fr.st.sub
  cases hx : ixL S2 d di with
  | none => rw [hx] at q; exact q.elim
  | some x =>
    rw [hx] at q
    simp only at q
    cases di with
    | int n =>
      simp only [ixL] at hx
      cases hl : asL S2 d with
      | none => rw [hl] at hx; cases hx
      | some l =>
        rw [hl] at hx
        obtain ⟨p, xs, rfl, hs, t⟩ := asL_ok fr2.st rv2 hl
        obtain ⟨w, h3, h4⟩ := t.atI hx
        cases ri
        refine ⟨p, xs, n, w, rfl, rfl, hs, h3, ?_⟩
        refine outR.bind (R := VR X.K) (k := fun e y S3 => match od x y with
          | some z => (match setD S3 d (.int n) z with
            | some S4 => .nx e S4
            | none => .no)
          | none => .no) fr2 q fun L3 io3 H3 S3 dy vy s3 fr3 ry q => ?_
        cases hz : od x dy with
        | none => rw [hz] at q; exact q.elim
        | some z =>
          rw [hz] at q
          simp only at q
          refine hod L3 io3 H3 w vy x dy z _ (h4.step s3 fr2.st.sub) ry hz fun vz rz => ?_
          cases hS : setD S3 d (.int n) z with
          | none => rw [hS] at q; exact q.elim
          | some S4 =>
            rw [hS] at q
            exact setD_ok fr3.st (rv2.step s3 fr2.st.sub) (.int n) rz hS fun H' s sr => q g H' L3 io3 (s.stw fr3.st.sub) (fr3.step s sr)
    | _ => cases hx
/-- x += e -/
def sAug (op : Dv → Dv → Option Dv) (n : Nat) (fv : DE) : DS := fun e S => match e[n]? with
  | some (.va x) => sBind fv (fun e y S1 => match op x y with
    | some z => .nx (e.set n (.va z)) S1
    | none => .no) e S
  | _ => .no
end
def startE (n : Nat) (l : List Dv) : Env := l.map Sl.va ++ List.replicate (n - l.length) .no
def runF (np n : Nat) (fb : DS) : DF := fun S l => if l.length = np then (match fb (startE n l) S with
  | .rt d S' => .ok d S'
  | .nx _ S' => .ok .non S'
  | .ex c fs _ S' => .ex c fs S'
  | _ => .no) else .no
theorem VRs.map_get {K : PySem.W.Frag} {L : Addr → Prop} {io : List Addr} {H : Hp} {vs : List V} {l : List Dv} (r : VRs K L io H vs l) {i : Nat} {d : Dv} {n m : Nat} (h : (l.map Sl.va ++ List.replicate n Sl.no)[i]? = some (.va d)) : ∃ v, (vs.map some ++ List.replicate m (none : Option V))[i]? = some (some v) ∧ VR K L io H v d := by
  by_cases hi : i < l.length
  · rw [List.getElem?_append_left (by rw [List.length_map]; exact hi), List.getElem?_map] at h
    cases q : l[i]? with
    | none => rw [q] at h; cases h
    | some z =>
      rw [q] at h
      cases h
      obtain ⟨v, h1, h2⟩ := r.get q
      refine ⟨v, ?_, h2⟩
      rw [List.getElem?_append_left (by rw [List.length_map, r.len]; exact hi), List.getElem?_map, h1]
      rfl
  · rw [List.getElem?_append_right (by rw [List.length_map]; omega), List.getElem?_replicate] at h
    split at h <;> cases h
theorem start_no {l : List Dv} {n i : Nat} {s : Sl} (h : (l.map Sl.va ++ List.replicate n Sl.no)[i]? = some s) : (∃ d, s = .va d) ∨ s = .no := by
  by_cases hi : i < l.length
  · rw [List.getElem?_append_left (by rw [List.length_map]; exact hi), List.getElem?_map] at h
    cases q : l[i]? with
    | none => rw [q] at h; cases h
    | some z => rw [q] at h; cases h; exact .inl ⟨z, rfl⟩
  · rw [List.getElem?_append_right (by rw [List.length_map]; omega), List.getElem?_replicate] at h
    split at h
    · cases h; exact .inr rfl
    · cases h
theorem fr_start {K : PySem.W.Frag} {L : Addr → Prop} {io : List Addr} {H : Hp} {S : Sto} {vs : List V} {l : List Dv} {N : List Str} (sr : SR K L io H S) (r : VRs K L io H vs l) : FR K L io H L io H (L2.start N vs) (startE N.length l) S where
  st := sr
  len := by
    unfold L2.start startE
    rw [List.length_append, List.length_append, List.length_map, List.length_map, List.length_replicate, List.length_replicate, r.len]
  va := fun i d h => r.map_get h
  own := fun i m h => by rcases start_no h with ⟨d, z⟩ | z <;> cases z
  inj := fun i j p _ v1 _ n1 _ g1 _ => by
    cases h : (startE N.length l)[i]? with
    | none =>
      have h1 := List.getElem?_eq_none_iff.mp h
      have h2 := (List.getElem?_eq_some_iff.mp g1).1
      unfold L2.start at h2
      unfold startE at h1
      rw [List.length_append, List.length_map, List.length_replicate] at h1 h2
      rw [r.len] at h2
      omega
    | some s =>
      rcases start_no h with ⟨d, z⟩ | z
      · rw [z] at h; exact absurd h (v1 d)
      · rw [z] at h; exact absurd h n1
  en := Stp.refl ..
  sub0 := sr.sub
  dom0 := sr.dom
section
variable {P : Program} {w : World} {K : PySem.W.Frag} {mg : Str → Option Value} {base : Heap} {CX : CXT} {name qual : Str} {params : Arguments} {body : List Stmt} {scope : Scope} {dvs : List V} {kws : List (Str × V)} {f : Addr} {fd : FuncData} {N ps : List Str} {k : Nat} {fb : DS}
/-- what leaves the frame -/
theorem leave {L0 L : Addr → Prop} {io0 io : List Addr} {H0 H : Hp} {S : Sto} (sr : SR K L io H S) (s : Stp L0 io0 H0 L io H) (sub0 : ∀ a ∈ io0, L0 a) : Stp L0 io0 H0 (Lx L0 io) io H ∧ SR K (Lx L0 io) io H S ∧ (∀ a, Lx L0 io a → L a) := by
  have hl : ∀ a, Lx L0 io a → L a := fun a z => z.elim (s.up a) (sr.sub a)
  refine ⟨⟨s.pre, s.hn, fun a z => z.elim .inl fun z => (s.hn a z).elim (fun q => .inl (sub0 a q)) .inr, s.keep, fun a z => .inl z⟩, sr.less hl fun a z => .inr z, hl⟩
/-- a def of the text, by its body's walk: as fn_of, the calls' room without guards -/
theorem fng_of {dV kV doc pm cdv ct oc : Value} {an od : Option Addr} {osl : Array (Option Value)} {sp : Sp} (lk : K.lookup f = some ⟨oc, od, .func (PySem.W.fnOf name qual params body scope dV kV doc pm an cdv ct), osl⟩) (hc : PySem.W.codeIn K cdv qual = true) (Sc : FnScope N ps scope)
    (hl : ∀ vs H Q E, sp vs H Q E → vs.length = ps.length)
    (hb : ∀ (A : Around) (up : List PySem.Env) (s : Shared) (H : Hp) (vs : List V) (Q : VK) (E : XK), RoomG k (A.deeper (PyProof.Rows.envOfC qual scope s.heap.objs.size f cdv)) → sp vs H Q E →
      ∃ t, PSs (cxOf (L2.CX P w) P w K mg base N qual scope f cdv A up s H E) body t ∧ t { nx := fun _ H' => Q .non H', rt := Q } (L2.start N vs) H) :
    FnG P w K mg base (k + 1) f (PySem.W.fnOf name qual params body scope dV kV doc pm an cdv ct) ps sp := by
  constructor
  · exact hl
  intro A up s H args us vs Q E room e0 bd rv q
  have kin := e0.mod.kin.keeps fun b o z => (e0.bs b o z).1
  have nol := e0.mod.nolimit.keeps fun b o z => (e0.bs b o z).1
  have kinds : ∀ y ∈ ps.zip us, scope.names.lookup y.1 = some .local ∨ (scope.names.lookup y.1 = some .cell ∧ ((PySem.cellsFrom (s.heap.objs.size + 1) scope.names []).lookup y.1).isSome = true) := by
    rintro ⟨n, v⟩ hy
    have := Sc.par n (List.of_mem_zip hy).1
    rcases this with z | z
    · exact .inl z
    · exact .inr ⟨z, PySem.W.cellsFrom_some _ _ _ (.inl z)⟩
  refine codeAny_call_function room.r.depth (kin _ _ lk) rfl Sc.co Sc.gen rfl (PySem.W.codeRec_of kin hc) (bd _ _ _ _ ?_)
  refine wpAny_newFunctionEnv_cells Sc.kind kinds fun env he s1 x => ?_
  cases he
  obtain ⟨t, ht, hq⟩ := hb A up s H vs Q E (room.deeper _) q
  have I0 := inv_start (CX := L2.CX P w) (E := E) Sc room.r.hd e0 (hl _ _ _ _ q) rv x
  refine ⟨nol.keeps x.toInCall.keep, codeAny_func (wpAny_mono (ht.run [] s1 _ H _ I0 hq) ?_ fun _ _ z => z)⟩
  intro fl s' z
  match fl, z with
  | .ret u, ⟨v, g', H', J, r, q⟩ => exact ⟨v, H', J.os, J.bare, J.base, J.hok, r, q⟩
  | .next, ⟨g', H', J, q⟩ => exact ⟨.non, H', J.os, J.bare, J.base, J.hok, rfl, q⟩
  | .brk, ⟨_, _, _, q⟩ => exact q.elim
  | .cont, ⟨_, _, _, q⟩ => exact q.elim
/-- the body of a def as a piece over data -/
abbrev BodyG (P : Program) (w : World) (K : PySem.W.Frag) (mg : Str → Option Value) (base : Heap) (N : List Str) (qual : Str) (scope : Scope) (f : Addr) (k : Nat) (body : List Stmt) (fb : DS) : Prop :=
  ∀ (cdv : Value) (A : Around) (up : List PySem.Env) (s : Shared) (H : Hp) (E : XK), RoomG k (A.deeper (PyProof.Rows.envOfC qual scope s.heap.objs.size f cdv)) → Takes (cxOf (L2.CX P w) P w K mg base N qual scope f cdv A up s H E) (fun c d _ H => E c d H) →
    PassesOwn (model P w) (A.deeper (PyProof.Rows.envOfC qual scope s.heap.objs.size f cdv)) (PyProof.Rows.envOfC qual scope s.heap.objs.size f cdv) (cxOf (L2.CX P w) P w K mg base N qual scope f cdv A up s H E).xe →
    QSs (cxOf (L2.CX P w) P w K mg base N qual scope f cdv A up s H E) (fun c d _ H => E c d H) body fb
theorem fn_mk (F : FunD K name qual params body scope dvs kws f fd) (Sc : FnScope N ps scope) (hb : BodyG P w K mg base N qual scope f k body fb) :
    FnG P w K mg base (k + 1) f fd ps (spD K (runF ps.length N.length fb)) := by
  obtain ⟨oc, od, dV, kV, doc, pm, an, cdv, ct, osl, rfl, lk, hcd, _, _⟩ := F.ex
  refine fng_of lk hcd Sc (fun vs H Q E h => ?_) fun A outer s H vs Q E hr h => ⟨_, hb cdv A outer s H E hr (takes_of rfl rfl rfl rfl) (passes_of rfl), ?_⟩
  · obtain ⟨L, io, S, l, sr, r, h⟩ := h
    unfold runF at h
    by_cases hl : l.length = ps.length
    · rw [r.len, hl]
    · rw [if_neg hl] at h; exact h.elim
  · obtain ⟨L, io, S, l, sr, r, h⟩ := h
    unfold runF at h
    by_cases hl : l.length = ps.length
    · rw [if_pos hl] at h
      refine ⟨L, io, H, L, io, startE N.length l, S, fr_start sr r, ?_⟩
      show outR K _ L io H _ L io H (fb (startE N.length l) S)
      cases hf : fb (startE N.length l) S with
      | nx e S' =>
        rw [hf] at h
        intro g H' L' io' sw fr
        obtain ⟨s1, s2, s3⟩ := leave fr.st fr.en fr.sub0
        exact h .non H' io' s1 s2 .non
      | rt d S' =>
        rw [hf] at h
        intro v H' L' io' sr' s r'
        obtain ⟨s1, s2, s3⟩ := leave sr' s sr.sub
        exact h v H' io' s1 s2 (r'.less s3)
      | ex c fs e S' =>
        rw [hf] at h
        intro x g H' L' io' sw fr rx
        obtain ⟨s1, s2, s3⟩ := leave fr.st fr.en fr.sub0
        obtain ⟨a, vs', e1, e2, e3, e4⟩ := rx
        exact h x H' io' s1 s2 ⟨a, vs', e1, fun z => e2 (s3 a z), e3, e4.mono fun v d r => r.less s3⟩
      | _ => rw [hf] at h; exact h.elim
    · rw [if_neg hl] at h; exact h.elim
end
end DL
namespace DL
open PySem L2
mutual
def litB (K : PySem.W.Frag) : Dv → Value → Bool
  | .non, .none => true
  | .bl b, .bool c => b == c
  | .int i, .int j _ => decide (i = j)
  | .str x, .str y _ => decide (x = y)
  | .tup l, .ref a => (match K.lookup a with
    | some ⟨.type c, none, .seq its _, _⟩ => decide (c = "tuple") && (decide (its.size ≤ sizeLine) && litsB K l its.toList)
    | _ => false)
  | .rol l, .ref a => (match K.lookup a with
    | some ⟨.type c, none, .seq its _, _⟩ => decide (c = "list") && (decide (its.size ≤ sizeLine) && litsB K l its.toList)
    | _ => false)
  | _, _ => false
def litsB (K : PySem.W.Frag) : List Dv → List Value → Bool
  | [], [] => true
  | d :: l, u :: us => litB K d u && litsB K l us
  | _, _ => false
end
mutual
theorem litB_ok {K : PySem.W.Frag} : ∀ (d : Dv) (u : Value), litB K d u = true → ∃ v, RelV v u ∧ ∀ L io H, VR K L io H v d
  | .non, .none, _ => ⟨.non, rfl, fun _ _ _ => .non⟩
  | .bl b, .bool c, h => by
    have e : b = c := eq_of_beq (show (b == c) = true from by simpa [litB] using h)
    subst e
    exact ⟨.bl b, rfl, fun _ _ _ => .bl b⟩
  | .int i, .int j t, h => by
    have e : i = j := by simpa [litB] using h
    subst e
    exact ⟨.int i, ⟨t, rfl⟩, fun _ _ _ => .int i⟩
  | .str i, .str j t, h => by
    have e : i = j := by simpa [litB] using h
    subst e
    exact ⟨.str i, ⟨t, rfl⟩, fun _ _ _ => .str i⟩
  | .tup l, .ref a, h => by
    unfold litB at h
    cases q : K.lookup a with
    | none => rw [q] at h; cases h
    | some o =>
      obtain ⟨oc, od, dt, osl⟩ := o
      rw [q] at h
      cases oc with
      | type c =>
        cases od with
        | none =>
          cases dt with
          | seq its n =>
            obtain ⟨h1, h2⟩ := He.ba (show (decide (c = "tuple") && (decide (its.size ≤ sizeLine) && litsB K l its.toList)) = true from h)
            obtain ⟨h3, h4⟩ := He.ba h2
            obtain ⟨vs, r1, r2⟩ := litsB_ok l _ h4
            have ec : Value.type c = .type "tuple" := congrArg Value.type (of_decide_eq_true h1)
            exact ⟨.ref a, rfl, fun L io H => .tupK ⟨fun H' => .inr ⟨_, its, n, q, ec, rfl, of_decide_eq_true h3, r1⟩, _, q, ec, rfl⟩ (r2 L io H)⟩
          | _ => cases h
        | some b => cases dt <;> cases h
      | _ => cases od <;> cases dt <;> cases h
  | .rol l, .ref a, h => by
    unfold litB at h
    cases q : K.lookup a with
    | none => rw [q] at h; cases h
    | some o =>
      obtain ⟨oc, od, dt, osl⟩ := o
      rw [q] at h
      cases oc with
      | type c =>
        cases od with
        | none =>
          cases dt with
          | seq its n =>
            obtain ⟨h1, h2⟩ := He.ba (show (decide (c = "list") && (decide (its.size ≤ sizeLine) && litsB K l its.toList)) = true from h)
            obtain ⟨h3, h4⟩ := He.ba h2
            obtain ⟨vs, r1, r2⟩ := litsB_ok l _ h4
            exact ⟨.ref a, rfl, fun L io H => .rolK (fun H' => .inr ⟨_, its, n, q, congrArg Value.type (of_decide_eq_true h1), rfl, rfl, of_decide_eq_true h3, r1⟩) (r2 L io H)⟩
          | _ => cases h
        | some z => cases dt <;> cases h
      | _ => cases od <;> cases dt <;> cases h
theorem litsB_ok {K : PySem.W.Frag} : ∀ (l : List Dv) (us : List Value), litsB K l us = true → ∃ vs, Vals vs us ∧ ∀ L io H, VRs K L io H vs l
  | [], [], _ => ⟨[], .nil, fun _ _ _ => .nil⟩
  | d :: l, u :: us, h => by
    obtain ⟨h1, h2⟩ := He.ba (show (litB K d u && litsB K l us) = true from by simpa [litsB] using h)
    obtain ⟨v, r1, r2⟩ := litB_ok d u h1
    obtain ⟨vs, r3, r4⟩ := litsB_ok l us h2
    exact ⟨v :: vs, .cons r1 r3, fun L io H => .cons (r2 L io H) (r4 L io H)⟩
end
/-- the module's name x is the constant d -/
def GlobC (K : PySem.W.Frag) (mg : Str → Option Value) (x : Str) (d : Dv) : Prop := ∃ u v, mg x = some u ∧ RelV v u ∧ ∀ L io H, VR K L io H v d
theorem qe_con {X : Cx} {W : WX} {pos : Pos} {x : Str} {d : Dv} (G : GlobC X.K X.mg x d) (hg : Gl X x := by rfl) (hd : (x == ("__debug__" : Str)) = false := by decide) : QE X W (.Name x pos) (eC d) := by
  obtain ⟨u, v, h1, h2, h3⟩ := G
  exact qe_glob h1 h2 h3 hg hd
/-- a def of the module as a value -/
theorem qe_glo {X : Cx} {W : WX} {pos : Pos} {x : Str} (hm : X.mg x = some (.ref (He.ga X.K x))) (hg : Gl X x := by rfl) (hd : (x == ("__debug__" : Str)) = false := by decide) : QE X W (.Name x pos) (eC (.glo x)) := qe_glob (v := .ref (He.ga X.K x)) hm rfl (fun _ _ _ => .glo x) hg hd
inductive Ft where
  | glo (x : Str) | free (x : Str) | con (x : Str) (d : Dv) | any (p : PySem.W.Frag → Bool)
def Ft.ok (K : PySem.W.Frag) : Ft → Bool
  | .glo x => (He.Fa.glo x).ok K
  | .free x => (He.Fa.free x).ok K
  | .con x d => (match PySem.W.nsIn K mainGlobals x with
    | some (some u) => litB K d u
    | _ => false)
  | .any p => p K
theorem con_ok {K : PySem.W.Frag} {h : Heap} {mg : Str → Option Value} (X : K.In h) (G : h.Ns mainGlobals mg) {x : Str} {d : Dv} (c : (Ft.con x d).ok K = true) : GlobC K mg x d := by
  have c2 : (match PySem.W.nsIn K mainGlobals x with
    | some (some u) => litB K d u
    | _ => false) = true := c
  cases e : PySem.W.nsIn K mainGlobals x with
  | none => rw [e] at c2; cases c2
  | some o =>
    rw [e] at c2
    cases o with
    | none => cases c2
    | some u =>
      obtain ⟨v, r1, r2⟩ := litB_ok d u c2
      exact ⟨u, v, PySem.W.mg_of X G e, r1, r2⟩
def obsM (fa : List Ft) (fn : List He.DefD) (K : PySem.W.Frag) : He.AlD := ((fa.all fun f => f.ok K) && fn.all fun d => d.ok K, fn.map fun d => He.fnW K d.at_)
def SaysM (fa : List Ft) (fn : List He.DefD) (K : PySem.W.Frag) : Prop := obsM fa fn K = He.valD fn
section
variable {fa : List Ft} {fn : List He.DefD} {K : PySem.W.Frag}
theorem SaysM.fact (c : SaysM fa fn K) (i : Nat) {f : Ft} (h : fa[i]? = some f := by rfl) : f.ok K = true := by
  have c1 := (He.ba (show ((fa.all fun f => f.ok K) && fn.all fun d => d.ok K) = true from congrArg (fun z : He.AlD => z.1) c)).1
  exact List.all_eq_true.mp c1 f (List.mem_of_getElem? h)
theorem SaysM.def_ (c : SaysM fa fn K) (i : Nat) {d : He.DefD} (h : fn[i]? = some d := by rfl) : ∃ fd, FunD K d.name d.qual d.params d.body d.scope (d.dvs K) (d.kws K) (He.fAd K d.at_) fd := by
  have c2 := (He.ba (show ((fa.all fun f => f.ok K) && fn.all fun d => d.ok K) = true from congrArg (fun z : He.AlD => z.1) c)).2
  have e : fn.map (fun d => He.fnW K d.at_) = fn.map He.DefD.val := congrArg (fun z : He.AlD => z.2) c
  have e2 : (fn.map fun d => He.fnW K d.at_)[i]? = (fn.map He.DefD.val)[i]? := by rw [e]
  rw [List.getElem?_map, List.getElem?_map, h] at e2
  exact He.DefD.funD (Option.some.inj e2) (List.all_eq_true.mp c2 d (List.mem_of_getElem? h))
end
/-- a def of the module, from its body's walk -/
theorem fd_mk {P : Program} {w : World} {K : PySem.W.Frag} {mg : Str → Option Value} {base : Heap} {x : Str} {st : Stmt} {N ps : List Str} {k np n : Nat} {fb : DS} (F : ∃ fd, FunD K x x (defArgs st) (defBody st) (defScope st) [] [] (He.ga K x) fd) (hm : mg x = some (.ref (He.ga K x)))
    (Sc : FnScope N ps (defScope st))
    (hbi : ∀ (kV doc pm : Value) (an : Option Addr) (cdv ct : Value) (us : List Value), us.length = ps.length → bindArgs (PySem.W.fnOf x x (defArgs st) (defBody st) (defScope st) .none kV doc pm an cdv ct) ⟨us, []⟩ = pure (ps.zip us))
    (hnp : ps.length = np) (hn : N.length = n) (hb : BodyG P w K mg base N x (defScope st) (He.ga K x) (k + 1) (defBody st) fb) : FD P w K mg base (k + 2) x (runF np n fb) := by
  subst hnp hn
  obtain ⟨fd, F⟩ := F
  exact ⟨_, fd, ps, fn_mk F Sc hb, hm, rfl, F.kp, F.bindsN hbi⟩
/-- .. of which nothing is asked -/
theorem fd_no {P : Program} {w : World} {K : PySem.W.Frag} {mg : Str → Option Value} {base : Heap} {x : Str} {st : Stmt} {ps : List Str} {k : Nat} (F : ∃ fd, FunD K x x (defArgs st) (defBody st) (defScope st) [] [] (He.ga K x) fd) (hm : mg x = some (.ref (He.ga K x)))
    (hbi : ∀ (kV doc pm : Value) (an : Option Addr) (cdv ct : Value) (us : List Value), us.length = ps.length → bindArgs (PySem.W.fnOf x x (defArgs st) (defBody st) (defScope st) .none kV doc pm an cdv ct) ⟨us, []⟩ = pure (ps.zip us)) : FD P w K mg base k x gNo := by
  obtain ⟨fd, F⟩ := F
  exact ⟨_, fd, ps, FnG.never spD_no, hm, rfl, F.kp, F.bindsN hbi⟩
/-- sys.modules stands in the heap -/
def SysB (h : Heap) : Prop := ∃ mm, h.Ns sysModules mm
section
variable {P : Program} {w : World} {K : PySem.W.Frag} {mg mb : Str → Option Value} {k : Nat} {fa a : Addr} {fd : FuncData} {x : Str} {sp : Sp} {s1 : Shared} {vs : List Value} {ns : List Int}
/-- over an abstract heap that knows the script at most -/
theorem law_over (KX : K.In s1.heap) (G : s1.heap.Ns mainGlobals mg) (B : s1.heap.Ns builtinsNs mb) (hB : ∀ y : Str, y ≠ "__name__" → mb y = bootBuiltins y) (nl : s1.heap.NoLimit) (ng : s1.gens = #[]) (hs : SysB s1.heap)
    (oa : s1.heap.get? a = some { cls := .type "list", data := .seq vs.toArray }) (hr : RoomG k callerA)
    (F : ∀ base : Heap, K.In base → base.Ns mainGlobals mg → SysB base → FnG P w K mg base k fa fd [x] sp) (bd : ∀ (s : Shared) (u : Value), BindsTo s fd ⟨[u], []⟩ [(x, u)])
    (H : Hp) (hO : Only H) (hok : HOk P w H s1.heap) (hA : ∀ b, H b ≠ none → b = a) (hK : H a ≠ none → K.lookup a = none)
    (q : sp [.ref a] H (fun v _ => v = .bl true) fun _ _ _ => False) :
    codeAny (model P w) callerA (.call (.ref fa) ⟨[.ref a], []⟩) (fun r s' => r = .ok (.ret (.bool true)) ∧ OldK s1.heap s'.heap ∧ s'.os = s1.os ∧ PyProof.Rows.AllBare s'.gens) s1 := by
  have free : ∀ {b : Addr} {o : Obj}, s1.heap.get? b = some o → (∀ its n, o.data ≠ .seq its n) → H b = none := by
    intro b o e hn
    by_cases hb : H b = none
    · exact hb
    · cases hA b hb
      rw [oa] at e
      cases e
      exact absurd rfl (hn _ _)
  have nsB : ∀ {b : Addr} {m : Str → Option Value}, s1.heap.Ns b m → (hidT s1.heap H).Ns b m := by
    rintro b m ⟨o, es, ep, e, d, r⟩
    exact ⟨o, es, ep, hidT_get e (free e fun its n z => by rw [d] at z; cases z), d, r⟩
  have KB : K.In (hidT s1.heap H) := by
    intro b o e
    refine hidT_get (KX b o e) ?_
    by_cases hb : H b = none
    · exact hb
    · cases hA b hb
      rw [hK hb] at e
      cases e
  obtain ⟨mc, l1, l2⟩ := nl
  have e0 : Env0 P w K mg (hidT s1.heap H) callerA [] s1 H :=
    { frames := rfl, mod := ⟨KB, nsB G, ⟨mb, nsB B, hB⟩, mc, nsB l1, l2⟩, bs := fun b o z => of_hidT z, bsz := Nat.le_of_eq (hidT_size _ _), funs := trivial, frf := fun b z => (nomatch (show b ∈ ([] : List Addr) from z)), hok := hok, bare := .of_eq ng }
  refine codeAny_mono ((F _ KB (nsB G) (let ⟨mm, z⟩ := hs; ⟨mm, nsB z⟩)).run _ [] s1 H _ [.ref a] [.ref a] _ _ hr e0 (bd s1 (.ref a)) (.cons rfl .nil) q) ?_
  intro r s' z
  match r, z with
  | .error e, ⟨_, _, _, _, _, _, _, _, _, _, _, _, z⟩ => exact z.elim
  | .ok .next, z => exact z.elim
  | .ok .brk, z => exact z.elim
  | .ok .cont, z => exact z.elim
  | .ok (.ret u), ⟨v, H', os, bare, un, hok', r', z⟩ =>
    cases (show v = .bl true from z)
    cases (show u = Value.bool true from r')
    refine ⟨rfl, OldK.of_keep fun b o e => ?_, os, bare⟩
    rcases hO b with hb | ⟨ob, xs, hb⟩
    · exact un.keep b o e hb (fun z => nomatch (show b ∈ ([] : List Addr) from z)) (fun z => nomatch z)
    · have e1 := (hok b _ hb).1
      have e2 := (hok' b _ (un.frzs b ob _ hb)).1
      rw [e] at e1
      rw [e2, ← e1]
theorem law_g (KX : K.In s1.heap) (G : s1.heap.Ns mainGlobals mg) (B : s1.heap.Ns builtinsNs mb) (hB : ∀ y : Str, y ≠ "__name__" → mb y = bootBuiltins y) (nl : s1.heap.NoLimit) (ng : s1.gens = #[]) (hs : SysB s1.heap)
    (oa : s1.heap.get? a = some { cls := .type "list", data := .seq vs.toArray }) (hi : PyProof.Rows.IntsAre vs ns) (hl : ns.length ≤ sizeLine) (hr : RoomG k callerA)
    (F : ∀ base : Heap, K.In base → base.Ns mainGlobals mg → SysB base → FnG P w K mg base k fa fd [x] sp) (bd : ∀ (s : Shared) (u : Value), BindsTo s fd ⟨[u], []⟩ [(x, u)])
    (q : ∀ H : Hp, SqL K H a (ns.map V.int) → sp [.ref a] H (fun v _ => v = .bl true) fun _ _ _ => False) :
    codeAny (model P w) callerA (.call (.ref fa) ⟨[.ref a], []⟩) (fun r s' => r = .ok (.ret (.bool true)) ∧ OldK s1.heap s'.heap ∧ s'.os = s1.os ∧ PyProof.Rows.AllBare s'.gens) s1 := by
  have rv := vals_ints hi
  have hv := hi.length
  by_cases hk : ∃ o, K.lookup a = some o
  · obtain ⟨o, hk⟩ := hk
    have e := KX a o hk
    rw [oa] at e
    cases e
    refine law_over KX G B hB nl ng hs oa hr F bd (fun _ => none) (fun _ => .inl rfl) (fun _ _ z => nomatch z) (fun _ z => (z rfl).elim) (fun z => (z rfl).elim) (q _ (.inr ⟨_, vs.toArray, _, hk, rfl, rfl, rfl, ?_, by simpa using rv⟩))
    rw [List.size_toArray, hv]
    exact hl
  · have hk' : K.lookup a = none := by
      cases z : K.lookup a with
      | none => rfl
      | some o => exact absurd ⟨o, z⟩ hk
    let u : HO := .frz { cls := .type "list", data := .seq vs.toArray } (.lst (ns.map V.int))
    have at_ : ∀ b v, upd (fun _ => none) a u b = some v → b = a ∧ v = u := by
      intro b v z
      by_cases hb : b = a
      · subst hb
        rw [upd_same] at z
        cases z
        exact ⟨rfl, rfl⟩
      · rw [upd_ne hb] at z
        cases z
    refine law_over KX G B hB nl ng hs oa hr F bd (upd (fun _ => none) a u) (fun b => ?_) (fun b v z => ?_) (fun b z => ?_) (fun _ => hk') (q _ (.inl (.inr ⟨_, upd_same⟩)))
    · by_cases hb : b = a
      · exact .inr ⟨_, _, by rw [hb]; exact upd_same⟩
      · exact .inl (upd_ne hb)
    · obtain ⟨rfl, rfl⟩ := at_ b v z
      exact ⟨oa, by rw [List.length_map]; exact hl, vs, _, rv, oa⟩
    · cases h : upd (fun _ => none) a u b with
      | none => exact absurd h z
      | some v => exact (at_ b v h).1
end
/-- the goal that the head leaves -/
theorem walk_g {l : PySem.W.OpenLaw} {n k : Nat} {q : Program} {loose : List Str} {XP : (Str → Option Value) → Heap → Prop} {YP : World → Heap → Prop} {d : DefRec} {x : Str} (hn : l.most = some n) (hz : n ≤ sizeLine) (hd : d.params.defaults = []) (him : PyProof.Rows.importsNone q = true) (hr : RoomG k callerA)
    (F : ∀ (w : World) (mg : Str → Option Value) (fa : Addr) (h : Heap), YP w h → h.Ns mainGlobals mg → mg d.name = some (.ref fa) → ∃ (K : PySem.W.Frag) (fd : FuncData) (sp : Sp), K.In h ∧ (∀ (s : Shared) (u : Value), BindsTo s fd ⟨[u], []⟩ [(x, u)]) ∧
      (∀ (H : Hp) (a : Addr) (ns : List Int), ns.length ≤ n → SqL K H a (ns.map V.int) → sp [.ref a] H (fun v _ => v = .bl true) fun _ _ _ => False) ∧ ∀ base : Heap, K.In base → base.Ns mainGlobals mg → SysB base → FnG l.prog w K mg base k fa fd [x] sp) :
    PySem.W.WalkO q loose XP YP l.row.toRowW d [] (fun f vs => PySem.call f vs) := by
  refine Att.attach_call hn hd fun w s0 s1 mg mb fa o pm cd doc a vs ns G Y ho hd' hcd hm oa hi hl ng => ?_
  obtain ⟨K, fd, sp, KX, bd, q, hF⟩ := F w mg fa _ Y G.T.g hm
  exact law_g KX G.T.g G.T.b G.T.builtins G.T.nolimit ng (let ⟨mm, z, _⟩ := (G.T.seer him).mods; ⟨mm, z⟩) oa hi (Nat.le_trans hl hz) hr hF bd fun H hS => q H a ns hl hS
/-- the law's end -/
theorem law_end {K : PySem.W.Frag} {g : DF} (h : ∀ ns : List Int, ns.length ≤ 63 → ∃ S, g [] [.rol (ns.map .int)] = .ok (.bl true) S) (H : Hp) (a : Addr) (ns : List Int) (hl : ns.length ≤ 63) (hS : SqL K H a (ns.map V.int)) : spD K g [.ref a] H (fun v _ => v = .bl true) fun _ _ _ => False := by
  obtain ⟨S, e⟩ := h ns hl
  have hv : ∀ ns : List Int, VRs K (fun _ => False) [] H (ns.map V.int) (ns.map Dv.int) := fun ns => by
    induction ns with
    | nil => exact .nil
    | cons n r ih => exact .cons (.int n) ih
  refine ⟨fun _ => False, [], [], [.rol (ns.map .int)], ⟨rfl, .nil, fun _ h => (nomatch h), fun _ h => h.elim, fun k a o h => by simp at h⟩, .cons ?_ .nil, ?_⟩
  · rcases hS with hS | hS
    · exact .rol (fun z => z) hS (hv ns)
    · exact .rolK (fun H' => .inr hS) (hv ns)
  · rw [e]
    intro v H' io' _ _ r
    cases r
    rfl
end DL
namespace DL
open PySem L2
theorem call_isiA {X : Cx} : CallR X (.builtin "isinstance") (rIsiA X.K) := CallR.or call_isi (CallR.or call_isiT call_isiK)
section
variable {X : Cx} {W : WX} {elt tg iter : Expr} {ifs : List Expr} {scope : Scope} {own : List (Str × Nat)} {pos spos py : Pos} {fi : DL} {gd : DG} {tt : DT} {te : DE} {y : Str}
/-- name = [..] -/
theorem qs_asgLc (hN' : X.N.Nodup) (i : Nat) (own : List (Str × Nat)) (hc : X.calm = true) (hN : X.N.Nodup) (hi : QI X W tg iter fi) (ok : BlkOk X.N X.env.scope scope own)
    (hg : ∀ (s : Shared) (H : Hp) (C : Addr) (cl : List (Str × Addr)) (fp : List Addr), QG (X.blk s H scope (compEnvC scope cl C X.env) fp) tg gd (own.map (·.2)))
    (ht : ∀ (s : Shared) (H : Hp) (C : Addr) (cl : List (Str × Addr)) (fp : List Addr), QTs (X.blk s H scope (compEnvC scope cl C X.env) fp) W0 ifs tt)
    (he : ∀ (s : Shared) (H : Hp) (C : Addr) (cl : List (Str × Addr)) (fp : List Addr), QE (X.blk s H scope (compEnvC scope cl C X.env) fp) W0 elt te)
    (hy : X.N[i]? = some y := by rfl) (hyl : X.env.scope.names.lookup y = some .local := by rfl)
    (hsw : swapsWith (.ListComp elt [⟨tg, iter, ifs, 0⟩] scope pos) (some (.Name y py)) spos.line X.env = pure true := by exact sw_true rfl rfl rfl (by decide +kernel)) (hs : ∀ x, foldedSetIterable iter X.env x = pure x := by intro _; rfl) :
    QS X W (.Assign [.Name y py] (.ListComp elt [⟨tg, iter, ifs, 0⟩] scope pos) spos) (sAsg i (eFrz (fLc fi gd tt te (own.map (·.2))))) :=
  ps_imp (ps_setLc (g := tgR X.K gd (own.map (·.2))) (tt := rdt X.K W0 tt) (te := rd X.K W0 te) hc hN hy hyl hsw hi ok (fun s H C cl fp => (hg s H C cl fp).canon) ht he hs) fun D g H h => by
    refine rd_lc tgR_ok (rd_frz ?_)
    exact rds_bind (R := VR X.K) (k := fun e d S => .nx (e.set i (.va d)) S) h fun L0 io0 H0 L io H1 e S d v fr r q => q _ H1 L io (Stw.refl ..) (fr.setV i r)
/-- -e -/
def negD : Dv → Sto → Res Dv
  | .int i, S => .ok (.int (-i)) S
  | _, _ => .no
def eNeg (f : DE) : DE := fun e S => bnd (f e S) negD
end
end DL
namespace DL
open PySem L2
def keyD : Dv → Option Key
  | .int i => some (.inl i)
  | .str x => some (.inr x)
  | _ => none
def dV : Key → Dv
  | .inl i => .int i
  | .inr x => .str x
section
variable {K : PySem.W.Frag} {L L' : Addr → Prop} {io io' : List Addr} {H H' : Hp} {S : Sto}
theorem keyD_ok {v : V} {d : Dv} {k : Key} (r : VR K L io H v d) (h : keyD d = some k) : v = kV k := by
  cases r with
  | int i => cases h; rfl
  | str i => cases h; rfl
  | _ => cases h
theorem VR.key (k : Key) : VR K L io H (kV k) (dV k) := by
  cases k with
  | inl i => exact .int i
  | inr x => exact .str x
def valD (l : List (Key × Dv)) (k : Key) : Option Dv := (l.find? fun kv => decide (kv.1 = k)).map (·.2)
def putD (l : List (Key × Dv)) (k : Key) (d : Dv) : List (Key × Dv) := if (l.any fun kv => decide (kv.1 = k)) = true then l.map (fun kv => if kv.1 = k then (kv.1, d) else kv) else l ++ [(k, d)]
def dropD (l : List (Key × Dv)) (k : Key) : List (Key × Dv) := l.filter fun kv => decide (kv.1 ≠ k)
def mergeD (l more : List (Key × Dv)) : List (Key × Dv) := more.foldl (fun acc kv => putD acc kv.1 kv.2) l
theorem VRp.pair : ∀ {kvs : List (Key × V)} {l : List (Key × Dv)}, VRp K L io H kvs l → PairR (VR K L io H) kvs l
  | _, _, .nil => .nil
  | _, _, .cons h t => .cons ⟨rfl, h⟩ (VRp.pair t)
theorem PairR.vrp : ∀ {kvs : List (Key × V)} {l : List (Key × Dv)}, PairR (VR K L io H) kvs l → VRp K L io H kvs l
  | _, _, .nil => .nil
  | (k, v) :: _, (k', d) :: _, .cons ⟨h1, h2⟩ t => by
    cases (show k = k' from h1)
    exact .cons h2 (PairR.vrp t)
theorem PairR.val {R : V → Dv → Prop} : ∀ {kvs : List (Key × V)} {l : List (Key × Dv)} (k : Key), PairR R kvs l → (∀ d, valD l k = some d → ∃ v, valV kvs k = some v ∧ R v d) ∧ (valD l k = none → valV kvs k = none)
  | [], _, k, .nil => ⟨fun d h => (by simp [valD] at h), fun _ => rfl⟩
  | (k1, v) :: kvs, (k2, d) :: l, k, .cons ⟨h1, h2⟩ t => by
    cases (show k1 = k2 from h1)
    have ih := PairR.val k t
    unfold valD valV at ih ⊢
    by_cases e : k1 = k
    · subst e
      refine ⟨fun d' h => ?_, fun h => ?_⟩
      · simp at h; subst h; exact ⟨v, by simp, h2⟩
      · simp at h
    · rw [List.find?_cons, List.find?_cons]
      simp only [e, decide_false]
      exact ih
theorem PairR.any {R : V → Dv → Prop} (k : Key) : ∀ {kvs : List (Key × V)} {l : List (Key × Dv)}, PairR R kvs l → (kvs.any fun kv => decide (kv.1 = k)) = l.any fun kv => decide (kv.1 = k)
  | _, _, .nil => rfl
  | (k1, v) :: kvs, (k2, d) :: l, .cons ⟨h1, h2⟩ t => by
    cases (show k1 = k2 from h1)
    rw [List.any_cons, List.any_cons, PairR.any k t]
theorem PairR.app {R : V → Dv → Prop} : ∀ {kvs kvs' : List (Key × V)} {l l' : List (Key × Dv)}, PairR R kvs l → PairR R kvs' l' → PairR R (kvs ++ kvs') (l ++ l')
  | _, _, _, _, .nil, h => h
  | _, _, _, _, .cons h t, h2 => .cons h (PairR.app t h2)
theorem PairR.mapP {R : V → Dv → Prop} {k : Key} {v : V} {d : Dv} (h : R v d) : ∀ {kvs : List (Key × V)} {l : List (Key × Dv)}, PairR R kvs l → PairR R (kvs.map fun kv => if kv.1 = k then (kv.1, v) else kv) (l.map fun kv => if kv.1 = k then (kv.1, d) else kv)
  | _, _, .nil => .nil
  | (k1, v1) :: kvs, (k2, d1) :: l, .cons ⟨h1, h2⟩ t => by
    cases (show k1 = k2 from h1)
    rw [List.map_cons, List.map_cons]
    refine .cons ?_ (PairR.mapP h t)
    by_cases e : k1 = k
    · rw [if_pos e, if_pos e]; exact ⟨rfl, h⟩
    · rw [if_neg e, if_neg e]; exact ⟨rfl, h2⟩
theorem PairR.put {R : V → Dv → Prop} {k : Key} {v : V} {d : Dv} {kvs : List (Key × V)} {l : List (Key × Dv)} (r : PairR R kvs l) (h : R v d) : PairR R (putK kvs k v) (putD l k d) := by
  unfold putK putD
  rw [r.any k]
  split
  · exact r.mapP h
  · exact r.app (.cons ⟨rfl, h⟩ .nil)
theorem PairR.drop {R : V → Dv → Prop} (k : Key) : ∀ {kvs : List (Key × V)} {l : List (Key × Dv)}, PairR R kvs l → PairR R (dropK kvs k) (dropD l k)
  | _, _, .nil => .nil
  | (k1, v1) :: kvs, (k2, d1) :: l, .cons ⟨h1, h2⟩ t => by
    cases (show k1 = k2 from h1)
    have ih := PairR.drop k t
    unfold dropK dropD at ih ⊢
    rw [List.filter_cons, List.filter_cons]
    by_cases e : k1 = k
    · simp only [e, ne_eq, not_true, decide_false, Bool.false_eq_true, if_false]; exact ih
    · simp only [ne_eq, e, not_false_iff, decide_true, if_true]; exact .cons ⟨rfl, h2⟩ ih
theorem PairR.merge {R : V → Dv → Prop} : ∀ {more : List (Key × V)} {lm : List (Key × Dv)} {kvs : List (Key × V)} {l : List (Key × Dv)}, PairR R more lm → PairR R kvs l → PairR R (mergeK kvs more) (mergeD l lm)
  | _, _, _, _, .nil, h => h
  | (k1, v1) :: more, (k2, d1) :: lm, kvs, l, .cons ⟨h1, h2⟩ t, h => by
    cases (show k1 = k2 from h1)
    have h3 : PairR R (putK kvs k1 v1) (putD l k1 d1) := PairR.put h h2
    exact PairR.merge (kvs := putK kvs k1 v1) (l := putD l k1 d1) t h3
end
def NewD (K : PySem.W.Frag) (H : Hp) (L' : Addr → Prop) (io' : List Addr) (H' : Hp) (v : V) (l : List (Key × Dv)) : Prop := ∃ p kvs, v = .ref p ∧ H p = none ∧ L' p ∧ p ∉ io' ∧ H' p = some (.dK kvs) ∧ PairR (VR K L' io' H') kvs l
abbrev DD := Env → Sto → Res (List (Key × Dv))
def FinD (K : PySem.W.Frag) (W : WX) (g : St) (L : Addr → Prop) (io : List Addr) (H : Hp) (Q : V → Hp → Prop) : Res (List (Key × Dv)) → Prop
  | .ok d S' => ∀ (v : V) (H' : Hp) (L' : Addr → Prop) (io' : List Addr), Stp L io H L' io' H' → SR K L' io' H' S' → NewD K H L' io' H' v d → Q v H'
  | .ex c fs S' => ∀ (x : Option Addr) (H' : Hp) (L' : Addr → Prop) (io' : List Addr), Stp L io H L' io' H' → SR K L' io' H' S' → ExR K L' io' H' x fs → W (.ref (He.ga K c)) x g H'
  | .no => False
def rdD (K : PySem.W.Frag) (W : WX) (f : DD) : TE := fun g H Q => ∃ (L0 : Addr → Prop) (io0 : List Addr) (H0 : Hp) (L : Addr → Prop) (io : List Addr) (e : Env) (S : Sto), FR K L0 io0 H0 L io H g e S ∧ FinD K W g L io H Q (f e S)
abbrev QD (X : Cx) (W : WX) (e : Expr) (f : DD) : Prop := PE X e (rdD X.K W f)
def eFrzD (f : DD) : DE := fun e S => bnd (f e S) fun l S' => .ok (.dic l) S'
theorem rd_frzD {K : PySem.W.Frag} {W : WX} {f : DD} {g : St} {H : Hp} {Q : VK} (q : rd K W (eFrzD f) g H Q) : rdD K W f g H Q := by
  obtain ⟨L0, io0, H0, L, io, e, S, fr, q⟩ := q
  refine ⟨L0, io0, H0, L, io, e, S, fr, ?_⟩
  have q : Fin K W (VR K) g L io H Q (bnd (f e S) fun l S' => .ok (.dic l) S') := q
  cases hf : f e S with
  | no => rw [hf] at q; exact q
  | ex c fs S' => rw [hf] at q; exact q
  | ok l S' =>
    rw [hf] at q
    intro v H' L' io' s sr ⟨p, xs, hv, hp, lp, np, h1, h2⟩
    subst hv
    have hl : ∀ a, Lz L' p a → L' a := fun a z => z.1
    refine q _ H' (Lz L' p) io' ⟨s.pre, s.hn, fun a z => s.new a z.1, s.keep, fun a z => ⟨s.up a z, fun e => fr.st.dom a z (by rw [e]; exact hp)⟩⟩ (sr.less hl fun a ha => ⟨sr.sub a ha, fun e => np (by rw [← e]; exact ha)⟩) (.dic (fun z => z.2 rfl) (.inl h1) (h2.mono fun v d r => r.less hl).vrp)
theorem qe_frzD {X : Cx} {W : WX} {a : Expr} {f : DD} (h : QD X W a f) : QE X W a (eFrzD f) := pe_imp h fun g H Q q => rd_frzD q
/-- {} -/
def dNil : DD := fun _ S => .ok [] S
theorem qd_nil {X : Cx} {W : WX} {pos : Pos} : QD X W (.Dict [] [] pos) dNil := pe_imp pe_dnewK fun g H Q q => by
  obtain ⟨L0, io0, H0, L, io, e, S, fr, q⟩ := q
  intro p hp
  exact q _ _ (Ly L p) io (Stp.newV hp) (fr.st.newV hp) ⟨p, [], rfl, hp, .inr rfl, fun z => fr.st.dom p (fr.st.sub p z) hp, upd_same, .nil⟩
/-- {k: v, ..} -/
abbrev DP := Env → Sto → Res (List (Dv × Dv))
def pNil : DP := fun _ S => .ok [] S
def pCons (fk fv : DE) (fp : DP) : DP := fun e S => bnd (fk e S) fun k S1 => bnd (fv e S1) fun v S2 => bnd (fp e S2) fun l S3 => .ok ((k, v) :: l) S3
def PvR (K : PySem.W.Frag) (L : Addr → Prop) (io : List Addr) (H : Hp) : List (V × V) → List (Dv × Dv) → Prop := Paired fun p q => VR K L io H p.1 q.1 ∧ VR K L io H p.2 q.2
def QP (X : Cx) (W : WX) (pos : Pos) (ks : List (Option Expr)) (vs : List Expr) (f : DP) : Prop := ∃ trs, PPs X pos ks vs trs ∧ ∀ g H Q, Rdg X.K W (PvR X.K) f g H Q → tPairs trs g H Q
section
variable {X : Cx} {W : WX} {pos : Pos} {k v o i : Expr} {ks : List (Option Expr)} {vs : List Expr} {fk fv f f2 : DE} {fp : DP}
theorem qp_nil : QP X W pos [] [] pNil := ⟨[], pps_nil, fun g H Q q => by
  obtain ⟨L0, io0, H0, L, io, e, S, fr, q⟩ := q
  exact q.ok1 fr.st .nil⟩
theorem qp_cons (hk : QE X W k fk) (hv : QE X W v fv) (hr : QP X W pos ks vs fp) : QP X W pos (some k :: ks) (v :: vs) (pCons fk fv fp) := by
  obtain ⟨trs, p, o⟩ := hr
  refine ⟨(rd X.K W fk, rd X.K W fv) :: trs, pps_cons hk hv p, fun g H Q q => ?_⟩
  refine Rdg.bind (R := VR X.K) (k := fun e k S1 => bnd (fv e S1) fun v S2 => bnd (fp e S2) fun l S3 => .ok ((k, v) :: l) S3) q fun L0 io0 H0 L io H1 e S dk x fr rk q => ?_
  refine Fin.bind (R := VR X.K) (k := fun v S2 => bnd (fp e S2) fun l S3 => .ok ((dk, v) :: l) S3) fr q fun L2 io2 H2 S2 dv y s2 fr2 rv q => ?_
  refine o _ _ _ (Fin.bind (R := PvR X.K) (k := fun l S3 => .ok ((dk, dv) :: l) S3) fr2 q fun L3 io3 H3 S3 l w s3 fr3 rl q => ?_)
  exact q.ok1 fr3.st (.cons ⟨(rk.step s2 fr.st.sub).step s3 fr2.st.sub, rv.step s3 fr2.st.sub⟩ rl)
def keysD : List (Dv × Dv) → Option (List (Key × Dv))
  | [] => some []
  | (k, v) :: r => (keyD k).bind fun k' => (keysD r).map fun l => (k', v) :: l
theorem keysD_ok {K : PySem.W.Frag} {L : Addr → Prop} {io : List Addr} {H : Hp} : ∀ {ps : List (V × V)} {l : List (Dv × Dv)} {m : List (Key × Dv)}, PvR K L io H ps l → keysD l = some m → ∃ kvs : List (Key × V), ps = kvs.map (fun kv => (kV kv.1, kv.2)) ∧ PairR (VR K L io H) kvs m
  | _, _, _, .nil, h => by cases h; exact ⟨[], rfl, .nil⟩
  | (x, y) :: ps, (a, b) :: l, m, .cons ⟨h1, h2⟩ t, h => by
    simp only [keysD] at h
    cases hk : keyD a with
    | none => rw [hk] at h; cases h
    | some k =>
      rw [hk] at h
      obtain ⟨m', h3, rfl⟩ := map_ok h
      obtain ⟨kvs, e, r⟩ := keysD_ok t h3
      refine ⟨(k, y) :: kvs, ?_, .cons ⟨rfl, h2⟩ r⟩
      rw [List.map_cons, ← e, ← keyD_ok h1 hk]
def kDisp (l : List (Dv × Dv)) (S : Sto) : Res (List (Key × Dv)) := match keysD l with
  | some m => if m.length ≤ 15 then .ok (mergeD [] m) S else .no
  | none => .no
def dDisp (fp : DP) : DD := fun e S => bnd (fp e S) kDisp
theorem FinD.later {K : PySem.W.Frag} {g : St} {L L1 : Addr → Prop} {io io1 : List Addr} {H H1 : Hp} {S1 : Sto} {Q : V → Hp → Prop} {r : Res (List (Key × Dv))} (h : FinD K W g L io H Q r) (s : Stp L io H L1 io1 H1) (sub : ∀ x ∈ io, L x) (sr1 : SR K L1 io1 H1 S1) : FinD K W g L1 io1 H1 Q r := by
  cases r with
  | ok l S2 =>
    intro v H' L' io' s2 sr2 ⟨p, xs, e1, e2, e3⟩
    refine h v H' L' io' (s.trans s2 sub) sr2 ⟨p, xs, e1, ?_, e3⟩
    rcases s.back e2 with z | z
    · exact absurd e2 (sr1.dom p (s.up p (sub p z)))
    · exact z
  | ex c fs S2 => exact fun v H' L' io' s2 sr r2 => h v H' L' io' (s.trans s2 sub) sr r2
  | no => exact h
theorem qd_disp (h : QP X W pos ks vs fp) (hall : ks.all (·.isSome) = true := by rfl) (hl : ks.length = vs.length := by rfl) (h0 : ks ≠ [] := by exact fun z => nomatch z) (h15 : ks.length ≤ 15 := by decide) : QD X W (.Dict ks vs pos) (dDisp fp) := by
  obtain ⟨trs, p, o⟩ := h
  refine pe_imp (pe_disp p hall hl h0 h15) fun g H Q q => ?_
  obtain ⟨L0, io0, H0, L, io, e, S, fr, q⟩ := q
  intro p hp
  have s0 : Stp L io H (Ly L p) io (upd H p (.dK [])) := Stp.newV hp
  have sr0 := fr.st.newV (o := .dK []) hp
  have np : p ∉ io := fun z => fr.st.dom p (fr.st.sub p z) hp
  have q : FinD X.K W g L io H Q (bnd (fp e S) kDisp) := q
  refine o _ _ _ ⟨L0, io0, H0, Ly L p, io, e, S, fr.step s0 sr0, ?_⟩
  cases hf : fp e S with
  | no => rw [hf] at q; exact q
  | ex c fs S1 =>
    rw [hf] at q
    exact fun x H' L' io' s sr r => q x H' L' io' (s0.trans s fr.st.sub) sr r
  | ok l S1 =>
    rw [hf] at q
    intro ps H2 L2 io2 s2 sr2 r2
    have k2 : H2 p = some (.dK []) := s2.keep p _ upd_same np
    refine ⟨k2, ?_⟩
    have q : FinD X.K W g L io H Q (kDisp l S1) := q
    unfold kDisp at q
    cases hk : keysD l with
    | none => rw [hk] at q; exact q.elim
    | some m =>
      rw [hk] at q
      simp only at q
      split at q
      · rename_i hz
        obtain ⟨kvs, e1, e2⟩ := keysD_ok r2 hk
        have lp : L2 p := s2.up p (.inr rfl)
        have np2 : p ∉ io2 := fun z => by
          rcases s2.hn p z with w | w
          · exact np w
          · rw [upd_same] at w; cases w
        refine ⟨kvs, e1, by rw [PairR.len e2]; exact hz, ?_⟩
        have st : Stp L io H L2 io2 H2 := s0.trans s2 fr.st.sub
        exact q _ _ L2 io2 ⟨st.pre, st.hn, st.new, fun a u h n => by rw [upd_ne (ne_of_none h hp)]; exact st.keep a u h n, st.up⟩ (sr2.mut lp np2) ⟨p, _, rfl, hp, lp, np2, upd_same, (PairR.merge e2 .nil).mono fun v d r => r.mut lp⟩
      · exact q.elim
/-- d[k], of a frozen dict or a handle's -/
def asD (S : Sto) : Dv → Option (List (Key × Dv))
  | .dic l => some l
  | .hdl k => match S[k]? with
    | some (.dct l) => some l
    | _ => none
  | _ => none
theorem asD_ok {K : PySem.W.Frag} {L : Addr → Prop} {io : List Addr} {H : Hp} {S : Sto} {v : V} {d : Dv} {l : List (Key × Dv)} (s : SR K L io H S) (r : VR K L io H v d) (h : asD S d = some l) : ∃ a kvs, v = .ref a ∧ Rd H a (.dK kvs) ∧ PairR (VR K L io H) kvs l := by
  cases r with
  | dic nl e t => cases h; exact ⟨_, _, rfl, e, t.pair⟩
  | hdl hk =>
    rename_i a k
    cases q : S[k]? with
    | none => simp [asD, q] at h
    | some o =>
      cases o with
      | dct l' =>
        simp [asD, q] at h
        subst h
        obtain ⟨xs, e, t⟩ := s.obj k a _ hk q
        exact ⟨a, xs, rfl, .inl e, t⟩
      | _ => simp [asD, q] at h
  | _ => cases h
theorem asD_x {K : PySem.W.Frag} {L : Addr → Prop} {io : List Addr} {H : Hp} {S : Sto} {v : V} {d : Dv} {l : List (Key × Dv)} (s : SR K L io H S) (r : VX K L io H v d) (h : asD S d = some l) : ∃ a kvs, v = .ref a ∧ Rd H a (.dK kvs) ∧ PairR (VR K L io H) kvs l := by
  rcases r with r | ⟨p, o, rfl, rfl, np, ob⟩
  · exact asD_ok s r h
  · cases o with
    | dct m => cases h; obtain ⟨kvs, e, t⟩ := ob; exact ⟨p, kvs, rfl, .inl e, t⟩
    | lst m => cases h
    | ins c fs => cases h
def dgetD (S : Sto) (d k : Dv) : Option (Dv × Sto) := (asD S d).bind fun l => (keyD k).bind fun k' => (valD l k').map fun x => (x, S)
theorem qe_dget {kk : Nat} (hr : Room kk X.A) (ho : QX X W o f) (hi : QX X W i f2) (hs : NoSl i := by exact fun _ _ => rfl) : QE X W (.Subscript o i pos) (eBin dgetD f f2) := pe_imp (pe_dget (hu_of hr) ho hi hs) fun g H Q q => by
  refine rd_bin (r := fun x y H Q => ∃ a v, x = .ref a ∧ DGet H a y (some v) ∧ Q v H) ?_ q
  intro L io H S x y a b d S' Q sr ra rb e q
  unfold dgetD at e
  cases h1 : asD S a with
  | none => rw [h1] at e; cases e
  | some l =>
    rw [h1] at e
    simp only [Option.bind_some] at e
    cases h2 : keyD b with
    | none => rw [h2] at e; cases e
    | some k =>
      rw [h2] at e
      obtain ⟨z, h3, h4⟩ := map_ok e
      cases h4
      obtain ⟨p, kvs, rfl, e1, e2⟩ := asD_x sr ra h1
      obtain ⟨v, e3, e4⟩ := (e2.val k).1 _ h3
      refine ⟨p, v, rfl, ?_, q _ H L io (Stp.refl ..) sr e4⟩
      rw [keyD_ok (rb.vr (by cases b <;> first | rfl | cases h2)) h2, ← e3]
      exact .inl ⟨kvs, k, e1, rfl, rfl⟩
end
def MtS (K : PySem.W.Frag) (r : V → List V → Hp → VK → Prop) (h : Sto → Str → List Dv → Option (Dv × Sto)) : Prop :=
  ∀ (L : Addr → Prop) (io : List Addr) (H : Hp) (S : Sto) (z : Str) (vs : List V) (as : List Dv) (d : Dv) (S' : Sto) (Q : VK), SR K L io H S → VRs K L io H vs as → h S z as = some (d, S') →
    (∀ (v : V) (H' : Hp) (L' : Addr → Prop) (io' : List Addr), Stp L io H L' io' H' → SR K L' io' H' S' → VR K L' io' H' v d → Q v H') → r (.str z) vs H Q
def kStrM (h : Sto → Str → List Dv → Option (Dv × Sto)) (fa : DA) (e : Env) (d : Dv) (S : Sto) : Res Dv := match d with
  | .str z => bnd (fa e S) fun as S2 => ofO (h S2 z as)
  | _ => .no
def eStrM (h : Sto → Str → List Dv → Option (Dv × Sto)) (f : DE) (fa : DA) : DE := fun e S => bnd (f e S) (kStrM h fa e)
section
variable {X : Cx} {W : WX} {apos cpos : Pos} {o a : Expr} {es : List Expr} {f : DE} {fa : DA} {name : Str} {id : String} {r : V → List V → Hp → VK → Prop} {h : Sto → Str → List Dv → Option (Dv × Sto)}
theorem rd_strM {K : PySem.W.Frag} (hs : MtS K r h) {g : St} {H : Hp} {Q : VK} (q : rd K W (eStrM h f fa) g H Q) : tBM K "str" r (rd K W f) (rda K W fa) g H Q := by
  refine Rdg.bind (R := VR K) (k := kStrM h fa) q fun L0 io0 H0 L io H1 e S d v fr rv q => ?_
  cases rv with
  | str z =>
    refine ⟨rfl, ?_⟩
    refine Fin.bind (R := VRs K) (k := fun as S2 => ofO (h S2 z as)) fr q fun L2 io2 H2 S2 as vs s2 fr2 r2 q => ?_
    obtain ⟨d, S', h1, h2⟩ := q.opt
    exact hs L2 io2 H2 S2 z vs as d S' Q fr2.st r2 h1 h2
  | _ => exact q.elim
theorem qe_strM (slot : Slot "str" name id) (hty : typeOf (.builtin id) = pure (.type "method_descriptor")) (hm : MtR X id r) (hs : MtS X.K r h) (ho : QE X W o f) (ha : QA X W (a :: es) fa)
    (hbase : attributeBase o name X.env (eval o X.env) = eval o X.env := by rfl)
    (hfew : ((backTo cpos (starEach (a :: es) X.env)).all (fun x => !x.1) && (backToKw cpos (keywordEach [] X.env)).all (fun x => x.1.isSome)
      && decide ((a :: es).length + ([] : List Keyword).length + (if ([] : List Keyword).isEmpty then 0 else 1) < 30)) = true := by rfl)
    (hline : (apos.endLine == cpos.line) = true := by rfl) (hst : starEach (a :: es) X.env = (false, eval a X.env) :: starEach es X.env := by rfl) (hplain : (backTo cpos (starEach es X.env)).any (·.1) = false := by rfl) :
    QE X W (.Call (.Attribute o name apos) (a :: es) [] cpos) (eStrM h f fa) := pe_imp (pe_bm PySem.F.plainAttrs_str slot hty hm ho ha hbase hfew hline hst hplain) fun g H Q q => rd_strM hs q
end
def splitD (S : Sto) (z : Str) (as : List Dv) : Option (Dv × Sto) := match as with
  | [.str y] => if (y.length == 0) = false ∧ z.length + 2 ≤ sizeLine then some (.lst ((Txt.split z y).map .str), S) else none
  | _ => none
theorem vrs_strs {K : PySem.W.Frag} {L : Addr → Prop} {io : List Addr} {H : Hp} : ∀ l : List Str, VRs K L io H (l.map V.str) (l.map Dv.str)
  | [] => .nil
  | x :: l => .cons (.str x) (vrs_strs l)
theorem mts_split {K : PySem.W.Frag} : MtS K (fun x xs H Q => ∃ a b, x = .str a ∧ xs = [.str b] ∧ (b.length == 0) = false ∧ a.length + 2 ≤ sizeLine ∧ rNewStrs (Txt.split a b) H Q) splitD := by
  intro L io H S z vs as d S' Q sr rv e q
  cases rv with
  | nil => cases e
  | cons r t =>
    cases t with
    | cons => simp [splitD] at e
    | nil =>
      cases r with
      | str y =>
        simp only [splitD] at e
        split at e
        · rename_i hz
          cases e
          exact ⟨z, y, rfl, rfl, hz.1, hz.2, fun p hp => q _ _ L io (Stp.alloc hp) (sr.alloc hp) (VR.newL sr hp (vrs_strs _))⟩
        · cases e
      | _ => cases e
def extD (l as : List Dv) : Option (List Dv × Dv) := match as with
  | [.lst m] => if l.length + m.length ≤ sizeLine then some (l ++ m, .non) else none
  | _ => none
theorem owns_ext {K : PySem.W.Frag} : OwnS K rExtend extD := by
  intro L io H S p xs l vs as l' d Q sr hp lp rx ra hh q
  cases ra with
  | nil => cases hh
  | cons r t =>
    cases t with
    | cons => simp [extD] at hh
    | nil =>
      cases r with
      | lst nl e rm =>
        simp only [extD] at hh
        split at hh
        · rename_i hl
          cases hh
          exact ⟨p, _, xs, _, rfl, rfl, hp, e, by rw [rx.len, rm.len]; exact hl, q _ _ (rx.app rm) .non⟩
        · cases hh
      | _ => cases hh
/-- len(found), found the slot's own -/
def eLenO (i : Nat) : DE := fun e S => match e[i]? with
  | some (.own (.lst l)) => .ok (.int l.length) S
  | _ => .no
/-- what is a slot's own becomes a handle's -/
def sHdl (i : Nat) : DS := fun e S => match e[i]? with
  | some (.own o) => .nx (e.set i (.va (.hdl S.length))) (S ++ [o])
  | _ => .no
end DL
namespace DL
open PySem L2
def insOf (S : Sto) : Dv → Option (Str × List (Str × Dv))
  | .obj c fs => some (c, fs)
  | .hdl k => match S[k]? with
    | some (.ins c fs) => some (c, fs)
    | _ => none
  | _ => none
section
variable {K : PySem.W.Frag} {L L' : Addr → Prop} {io io' : List Addr} {H H' : Hp} {S : Sto}
theorem insOf_ok {v : V} {d : Dv} {c : Str} {fs : List (Str × Dv)} (s : SR K L io H S) (r : VR K L io H v d) (h : insOf S d = some (c, fs)) : ∃ a dx vs, v = .ref a ∧ H a = some (.ins (He.ga K c) dx vs) ∧ PairR (VR K L io H) vs fs := by
  cases r with
  | obj nl e t => cases h; exact ⟨_, _, _, rfl, e, of_vrf t⟩
  | hdl hk =>
    rename_i a k
    cases q : S[k]? with
    | none => simp [insOf, q] at h
    | some o =>
      cases o with
      | ins c' l' =>
        simp [insOf, q] at h
        obtain ⟨rfl, rfl⟩ := h
        obtain ⟨dx, vs, e, t⟩ := s.obj k a _ hk q
        exact ⟨a, dx, vs, rfl, e, t⟩
      | _ => simp [insOf, q] at h
  | _ => cases h
theorem PairR.look {R : V → Dv → Prop} (f : Str) : ∀ {vs : List (Str × V)} {fs : List (Str × Dv)}, PairR R vs fs → (∀ d, fs.lookup f = some d → ∃ v, vs.lookup f = some v ∧ R v d) ∧ (fs.lookup f = none → vs.lookup f = none)
  | [], _, .nil => ⟨fun d h => (by simp at h), fun _ => rfl⟩
  | (k1, v) :: vs, (k2, d) :: fs, .cons ⟨h1, h2⟩ t => by
    cases (show k1 = k2 from h1)
    have ih := PairR.look f t
    rw [List.lookup_cons, List.lookup_cons]
    cases e : f == k1 with
    | true => exact ⟨fun d' h => (by cases h; exact ⟨v, rfl, h2⟩), fun h => (by cases h)⟩
    | false => exact ih
def putFD (f : Str) (d : Dv) : List (Str × Dv) → List (Str × Dv)
  | [] => [(f, d)]
  | (g, x) :: r => if g = f then (g, d) :: r else (g, x) :: putFD f d r
theorem PairR.putF {R : V → Dv → Prop} {f : Str} {v : V} {d : Dv} (h : R v d) : ∀ {vs : List (Str × V)} {fs : List (Str × Dv)}, PairR R vs fs → PairR R (L2.putF f v vs) (putFD f d fs)
  | [], _, .nil => .cons ⟨rfl, h⟩ .nil
  | (k1, w) :: vs, (k2, x) :: fs, .cons ⟨h1, h2⟩ t => by
    cases (show k1 = k2 from h1)
    unfold L2.putF putFD
    by_cases e : k1 = f
    · rw [if_pos e, if_pos e]; exact .cons ⟨rfl, h⟩ t
    · rw [if_neg e, if_neg e]; exact .cons ⟨rfl, h2⟩ (PairR.putF h t)
theorem PairR.size {R : V → Dv → Prop} : ∀ {vs : List (Str × V)} {fs : List (Str × Dv)}, PairR R vs fs → vs.length = fs.length
  | [], _, .nil => rfl
  | _ :: vs, _ :: fs, .cons _ t => by rw [List.length_cons, List.length_cons, PairR.size t]
end
/-- o.f -/
def kFld (c f : Str) (d : Dv) (S : Sto) : Res Dv := match insOf S d with
  | some (c', fs) => if c' = c then (match fs.lookup f with
    | some x => .ok x S
    | none => .no) else .no
  | none => .no
def eFld (c f : Str) (fo : DE) : DE := fun e S => bnd (fo e S) (kFld c f)
/-- what the text says of a field of a class -/
structure Fl (K : PySem.W.Frag) (c f : Str) : Prop where
  kc : Cls K (He.ga K c)
  kn : NoAttr K (He.ga K c) f
section
variable {X : Cx} {W : WX} {pos pos' : Pos} {o a : Expr} {f c : Str} {fo fv : DE}
theorem qe_fld (hf : Fl X.K c f) (h : QE X W o fo) (hb : attributeBase o f X.env (eval o X.env) = eval o X.env := by rfl) : QE X W (.Attribute o f pos) (eFld c f fo) := pe_imp (pe_fld h hb) fun g H Q q => by
  refine Rdg.bind (R := VR X.K) (k := fun _ => kFld c f) q fun L0 io0 H0 L io H1 e S d v fr rv q1 => ?_
  replace q := q1
  unfold kFld at q
  cases h1 : insOf S d with
  | none => rw [h1] at q; exact q.elim
  | some z =>
    obtain ⟨c', fs⟩ := z
    rw [h1] at q
    simp only at q
    split at q
    · rename_i hc
      subst hc
      obtain ⟨p, dx, vs, rfl, e1, e2⟩ := insOf_ok fr.st rv h1
      cases h2 : fs.lookup f with
      | none => rw [h2] at q; exact q.elim
      | some x =>
        rw [h2] at q
        obtain ⟨v, e3, e4⟩ := (e2.look f).1 x h2
        exact ⟨p, _, dx, vs, v, rfl, e1, hf.kc, hf.kn, e3, q.ok1 fr.st e4⟩
    · exact q.elim
/-- o.f = v, o a handle -/
def setF (c f : Str) (S : Sto) (o v : Dv) : Option Sto := match o with
  | .hdl k => match S[k]? with
    | some (.ins c' fs) => if c' = c ∧ fs.length < 1000 then some (S.set k (.ins c' (putFD f v fs))) else none
    | _ => none
  | _ => none
def sFldH (c f : Str) (fo fv : DE) : DS := sBind fv fun e v S => sBind fo (fun e o S2 => match setF c f S2 o v with
  | some S3 => .nx e S3
  | none => .no) e S
theorem qs_fld (hf : Fl X.K c f) (ho : QE X W o fo) (hv : QE X W a fv) (hs : swapsWith a (some (.Attribute o f pos')) pos.line X.env = pure false := by rfl) : QS X W (.Assign [.Attribute o f pos'] a pos) (sFldH c f fo fv) := ps_imp (ps_fld ho hv hs) fun D g H h => by
  refine rds_bind (R := VR X.K) (k := fun e v S => sBind fo (fun e o S2 => match setF c f S2 o v with
    | some S3 => .nx e S3
    | none => .no) e S) h fun L0 io0 H0 L io H1 e S dv v fr rv q => ?_
  refine outR.bind (R := VR X.K) (k := fun e o S2 => match setF c f S2 o dv with
    | some S3 => .nx e S3
    | none => .no) fr q fun M2 io2 H2 S2 d y s2 fr2 ro q1 => ?_
  replace q := q1
  cases d with
  | hdl k =>
    simp only [setF] at q
    cases h1 : S2[k]? with
    | none => rw [h1] at q; exact q.elim
    | some ob =>
      cases ob with
      | ins c' fs =>
        rw [h1] at q
        simp only at q
        split at q
        · rename_i S3 hz
          split at hz
          · rename_i hc
            cases hz
            obtain ⟨hc, hl⟩ := hc
            subst hc
            cases ro with
            | hdl hk =>
              rename_i p
              obtain ⟨dx, vs, e1, e2⟩ := fr2.st.obj k p _ hk h1
              have lp : M2 p := fr2.st.sub p (List.mem_of_getElem? hk)
              refine ⟨p, _, dx, vs, rfl, e1, hf.kc, hf.kn, by rw [e2.size]; exact hl, ?_⟩
              have st : Stp M2 io2 H2 M2 io2 (upd H2 p (.ins (He.ga X.K c') dx (putF f v vs))) := Stp.mutH (List.mem_of_getElem? hk)
              have sr := fr2.st.setH (ob := .ins c' (putFD f dv fs)) (o := .ins (He.ga X.K c') dx (putF f v vs)) hk ⟨dx, _, upd_same, (PairR.putF (rv.step s2 fr.st.sub) e2).mono fun v d r => r.mut lp⟩
              exact q g _ M2 io2 (st.stw fr2.st.sub) (fr2.step st sr)
          · cases hz
        · exact q.elim
      | _ => rw [h1] at q; exact q.elim
  | _ => exact q.elim
end
/-- the method m of the class c answers as g, the data dl behind the arguments of the call -/
def FM (P : Program) (w : World) (K : PySem.W.Frag) (mg : Str → Option Value) (base : Heap) (k : Nat) (c m : Str) (dl : List Dv) (g : DF) : Prop :=
  ∃ (f : Addr) (fd : FuncData) (ps : List Str) (ds : List Value) (dvs : List V), FnG P w K mg base k f fd ps (spD K g) ∧ Cls K (He.ga K c) ∧ Meth K (He.ga K c) m f ∧ Binds K fd ps ds ∧ Vals dvs ds ∧ ∀ L io H, VRs K L io H dvs dl
def kMeth (c m : Str) (dl : List Dv) (g : DF) (fa : DA) (e : Env) (d : Dv) (S : Sto) : Res Dv := match insOf S d with
  | some (c', fs) => if c' = c ∧ (fs.lookup m).isNone = true then bnd (fa e S) fun as S2 => g S2 (d :: (as ++ dl)) else .no
  | none => .no
def eMeth (c m : Str) (dl : List Dv) (g : DF) (fo : DE) (fa : DA) : DE := fun e S => bnd (fo e S) (kMeth c m dl g fa e)
section
variable {X : Cx} {W : WX} {apos pos : Pos} {o e : Expr} {es : List Expr} {m c : Str} {fo : DE} {fa : DA} {dl : List Dv} {g : DF} {k : Nat} {pl : Sem Bool}
/-- what a method's call asks, behind the object -/
def tMG (C : Addr) (m : Str) (sp : Sp) (dvs : List V) (W : WX) (ta : TE) (t : TA) : TE := fun σ H Q => ta σ H fun x H1 => ∃ a dx fs, x = .ref a ∧ H1 a = some (.ins C dx fs) ∧ fs.lookup m = none ∧
  t σ H1 fun vs H2 => sp (x :: (vs ++ dvs)) H2 Q (fun c d H' => W c d σ H')
theorem rd_meth {dvs : List V} (hd : ∀ L io H, VRs X.K L io H dvs dl) {st : St} {H : Hp} {Q : VK} (q : rd X.K W (eMeth c m dl g fo fa) st H Q) : tMG (He.ga X.K c) m (spD X.K g) dvs W (rd X.K W fo) (rda X.K W fa) st H Q := by
  refine Rdg.bind (R := VR X.K) (k := kMeth c m dl g fa) q fun L0 io0 H0 L io H1 e S d v fr rv q1 => ?_
  replace q := q1
  unfold kMeth at q
  cases h1 : insOf S d with
  | none => rw [h1] at q; exact q.elim
  | some z =>
    obtain ⟨c', fs⟩ := z
    rw [h1] at q
    simp only at q
    split at q
    · rename_i hc
      obtain ⟨hc, hl⟩ := hc
      subst hc
      obtain ⟨p, dx, vs, rfl, e1, e2⟩ := insOf_ok fr.st rv h1
      refine ⟨p, dx, vs, rfl, e1, (e2.look m).2 (Option.isNone_iff_eq_none.mp hl), ?_⟩
      refine Fin.bind (R := VRs X.K) (k := fun as S2 => g S2 (d :: (as ++ dl))) fr q fun L2 io2 H2 S2 as ws s2 fr2 r2 q => ?_
      exact spD_fin fr2.st (.cons (rv.step s2 fr.st.sub) (r2.app (hd _ _ _))) q
    · exact q.elim
theorem qe_meth (F : FM X.prog X.w X.K X.mg X.base k c m dl g) (hr : RoomG (k + 1) X.A) (tk : Takes X W) (ho : QE X W o fo) (ha : QA X W (e :: es) fa)
    (hst : starEach (e :: es) X.env = (false, eval e X.env) :: starEach es X.env := by rfl) (hpl : (backTo pos (starEach es X.env)).any (·.1) = false := by rfl)
    (ht : eval (.Call (.Attribute o m apos) (e :: es) [] pos) X.env = (do
      let ov ← eval o X.env
      standAt apos.atName
      let (f, first) ← holding [ov] (getMethod ov m pl)
      callWith pos f first (backTo pos (starEach (e :: es) X.env)) (backToKw pos (keywordEach [] X.env))) := by rfl) : QE X W (.Call (.Attribute o m apos) (e :: es) [] pos) (eMeth c m dl g fo fa) := by
  obtain ⟨f, fd, ps, ds, dvs, F, hc, hm, hb, hv, hd⟩ := F
  refine ⟨fun pins s st H Q I q => PySem.W.methodCall_KW (pl := pl) (thn (ho.run pins s st H _ I (rd_meth hd q)) fun u s1 z => ?_) ht⟩
  obtain ⟨x, H1, I1, rx, a, dx, fs, rfl, ea, l, z⟩ := z
  cases (show u = Value.ref a from rx)
  refine getmeth_ok I1 ea hc hm l (PySem.W.callWith_K (first := [.ref a]) (h₀ := X.base) I.ok.mod.kin hm.kp (thn (ha.run pos pins s1 st H1 _ I1 z) ?_) hst hpl)
  rintro us s2 ⟨vs, H2, I2, r, z⟩
  exact ⟨I2.kIn, run_g (us := .ref a :: us) (vs := .ref a :: vs) F hr.low hb hv tk I2 (.cons rfl r) z⟩
theorem qe_meth0 (F : FM X.prog X.w X.K X.mg X.base k c m dl g) (hr : RoomG (k + 1) X.A) (tk : Takes X W) (ho : QE X W o fo)
    (ht : eval (.Call (.Attribute o m apos) [] [] pos) X.env = (do
      let ov ← eval o X.env
      standAt apos.atName
      let (f, first) ← holding [ov] (getMethod ov m pl)
      callWith pos f first (backTo pos (starEach [] X.env)) (backToKw pos (keywordEach [] X.env))) := by rfl) : QE X W (.Call (.Attribute o m apos) [] [] pos) (eMeth c m dl g fo aNil) := by
  obtain ⟨f, fd, ps, ds, dvs, F, hc, hm, hb, hv, hd⟩ := F
  refine ⟨fun pins s st H Q I q => PySem.W.methodCall_KW (pl := pl) (thn (ho.run pins s st H _ I (rd_meth hd q)) fun u s1 z => ?_) ht⟩
  obtain ⟨x, H1, I1, rx, a, dx, fs, rfl, ea, l, z⟩ := z
  cases (show u = Value.ref a from rx)
  have z' : spD X.K g (.ref a :: ([] ++ dvs)) H1 Q (fun c d H' => W c d st H') := by
    obtain ⟨L0, io0, H0, L, io, e, S, fr, z⟩ := z
    exact z [] H1 L io (Stp.refl ..) fr.st .nil
  exact getmeth_ok I1 ea hc hm l (PySem.W.callWith_K0 (first := [.ref a]) I1.kIn hm.kp (run_g (us := [.ref a]) (vs := [.ref a]) F hr.low hb hv tk I1 (.cons rfl .nil) z'))
end
mutual
def noH : Dv → Bool
  | .tup l => noHs l
  | .lst l => noHs l
  | .rol l => noHs l
  | .dic l => noHp l
  | .obj _ fs => noHf fs
  | .hdl _ => false
  | _ => true
def noHs : List Dv → Bool
  | [] => true
  | d :: l => noH d && noHs l
def noHp : List (Key × Dv) → Bool
  | [] => true
  | (_, d) :: l => noH d && noHp l
def noHf : List (Str × Dv) → Bool
  | [] => true
  | (_, d) :: l => noH d && noHf l
end
section
variable {K : PySem.W.Frag} {L L' : Addr → Prop} {io io' : List Addr} {H H' : Hp}
theorem VR.noh (hl : ∀ a o, H a = some o → ¬ L a → H' a = some o ∧ ¬ L' a) : ∀ {v : V} {d : Dv}, VR K L io H v d → noH d = true → VR K L' io' H' v d := by
  intro v d h
  refine VR.rec (motive_1 := fun v d _ => noH d = true → VR K L' io' H' v d) (motive_2 := fun vs ds _ => noHs ds = true → VRs K L' io' H' vs ds) (motive_3 := fun vs ds _ => noHp ds = true → VRp K L' io' H' vs ds) (motive_4 := fun vs ds _ => noHf ds = true → VRf K L' io' H' vs ds) ?_ ?_ ?_ ?_ ?_ ?_ ?_ ?_ ?_ ?_ ?_ ?_ ?_ ?_ ?_ ?_ ?_ ?_ ?_ ?_ h
  · exact fun _ => .non
  · exact fun b _ => .bl b
  · exact fun i _ => .int i
  · exact fun x _ => .str x
  · intro a xs ds nl e _ ih n
    exact .tup (hl a _ e nl).2 (hl a _ e nl).1 (ih (by simpa [noH] using n))
  · exact fun h _ ih n => .tupK h (ih (by simpa [noH] using n))
  · intro a xs ds nl e _ ih n
    exact .lst (hl a _ e nl).2 (hl a _ e nl).1 (ih (by simpa [noH] using n))
  · intro a xs ds nl r _ ih n
    obtain ⟨o, e⟩ := rd_some r
    exact .rol (hl a o e nl).2 (rd_keep r fun o e => (hl a o e nl).1) (ih (by simpa [noH] using n))
  · exact fun h _ ih n => .rolK h (ih (by simpa [noH] using n))
  · intro a xs ds nl r _ ih n
    obtain ⟨o, e⟩ := rd_some r
    exact .dic (hl a o e nl).2 (rd_keep r fun o e => (hl a o e nl).1) (ih (by simpa [noH] using n))
  · intro a dx c vs fs nl e _ ih n
    exact .obj (hl a _ e nl).2 (hl a _ e nl).1 (ih (by simpa [noH] using n))
  · exact fun h n => by simp [noH] at n
  · exact fun x _ => .glo x
  · exact fun n _ => .ty n
  · exact fun _ => .nil
  · exact fun _ _ h1 h2 n => by
      simp only [noHs, Bool.and_eq_true] at n
      exact .cons (h1 n.1) (h2 n.2)
  · exact fun _ => .nil
  · exact fun _ _ h1 h2 n => by
      simp only [noHp, Bool.and_eq_true] at n
      exact .cons (h1 n.1) (h2 n.2)
  · exact fun _ => .nil
  · exact fun _ _ h1 h2 n => by
      simp only [noHf, Bool.and_eq_true] at n
      exact .cons (h1 n.1) (h2 n.2)
theorem VRs.noh (hl : ∀ a o, H a = some o → ¬ L a → H' a = some o ∧ ¬ L' a) : ∀ {vs : List V} {ds : List Dv}, VRs K L io H vs ds → noHs ds = true → VRs K L' io' H' vs ds
  | _, _, .nil, _ => .nil
  | _, _, .cons h t, n => by
    simp only [noHs, Bool.and_eq_true] at n
    exact .cons (VR.noh hl h n.1) (VRs.noh hl t n.2)
theorem PairR.noh (hl : ∀ a o, H a = some o → ¬ L a → H' a = some o ∧ ¬ L' a) : ∀ {vs : List (Str × V)} {ds : List (Str × Dv)}, PairR (VR K L io H) vs ds → noHf ds = true → PairR (VR K L' io' H') vs ds
  | [], _, .nil, _ => .nil
  | _ :: _, (_, _) :: _, .cons ⟨h1, h2⟩ t, n => by
    simp only [noHf, Bool.and_eq_true] at n
    exact .cons ⟨h1, VR.noh hl h2 n.1⟩ (PairR.noh hl t n.2)
end
/-- the class c can be made: __init__ answers as g (the new instance first) -/
def FK (P : Program) (w : World) (K : PySem.W.Frag) (mg : Str → Option Value) (base : Heap) (k : Nat) (c : Str) (dl : List Dv) (g : DF) : Prop :=
  ∃ (f : Addr) (fd : FuncData) (ps : List Str) (ds : List Value) (dvs : List V), FnG P w K mg base k f fd ps (spD K g) ∧ mg c = some (.ref (He.ga K c)) ∧ Mk K (He.ga K c) f ∧ Binds K fd ps ds ∧ Vals dvs ds ∧ ∀ L io H, VRs K L io H dvs dl
def kMkE (c : Str) (S : Sto) : Res Dv → Res Dv
  | .ok .non (.ins c' fs :: _) => if c' = c ∧ noHf fs = true then .ok (.obj c fs) S else .no
  | .ex x fs (_ :: _) => if noHf fs = true then .ex x fs S else .no
  | _ => .no
def kMk (c : Str) (g : DF) (as : List Dv) (S : Sto) : Res Dv := if noHs as = true then kMkE c S (g [.ins c []] (.hdl 0 :: as)) else .no
/-- C(..), a frozen instance: made apart from the store -/
def eMk (c : Str) (dl : List Dv) (g : DF) (fa : DA) : DE := fun e S => bnd (fa e S) fun as S1 => kMk c g (as ++ dl) S1
theorem mk_spD {K : PySem.W.Frag} {W : WX} {c : Str} {g : DF} {st : St} {L : Addr → Prop} {io : List Addr} {H : Hp} {S : Sto} {vs : List V} {l : List Dv} {Q : VK} (sr : SR K L io H S) (r : VRs K L io H vs l) (q : Fin K W (VR K) st L io H Q (kMk c g l S)) {x dx : Addr} (hx : H x = none) (hdx : H dx = none) (hn : dx ≠ x) :
    spD K g (.ref x :: vs) (upd (upd H dx (.own x)) x (.ins (He.ga K c) dx [])) (fun v H2 => v = .non ∧ Q (.ref x) H2) (fun c d H' => W c d st H') := by
  unfold kMk at q
  split at q
  · rename_i hno
    have hH : ∀ a o, H a = some o → (upd (upd H dx (.own x)) x (.ins (He.ga K c) dx [])) a = some o := fun a o e => by
      rw [upd_ne (ne_of_none e hx), upd_ne (ne_of_none e hdx)]; exact e
    have hl1 : ∀ a o, H a = some o → ¬ L a → (upd (upd H dx (.own x)) x (.ins (He.ga K c) dx [])) a = some o ∧ ¬ Ly L x a := fun a o e n => ⟨hH a o e, fun z => z.elim n (ne_of_none e hx)⟩
    refine ⟨Ly L x, [x], [.ins c []], .hdl 0 :: l, ⟨rfl, by simp, fun a ha => .inr (by simpa using ha), fun a ha => ?_, fun k a o h1 h2 => ?_⟩, .cons (.hdl rfl) (VRs.noh hl1 r hno), ?_⟩
    · rcases ha with ha | ha
      · cases e : H a with
        | none => exact absurd e (sr.dom a ha)
        | some o => rw [hH a o e]; exact fun z => nomatch z
      · rw [ha, upd_same]; exact fun z => nomatch z
    · cases k with
      | zero => cases h1; cases h2; exact ⟨dx, [], upd_same, .nil⟩
      | succ n => simp at h1
    · have back : ∀ {H' : Hp} {io' : List Addr} (s' : Stp (Ly L x) [x] (upd (upd H dx (.own x)) x (.ins (He.ga K c) dx [])) (Lx (Ly L x) io') io' H'), Stp L io H L io H' ∧ SR K L io H' S := by
        intro H' io' s'
        have keep : ∀ a o, H a = some o → H' a = some o := fun a o e => s'.keep a o (hH a o e) fun z => by
          simp at z; exact ne_of_none e hx z
        have st1 : Stp L io H L io H' := ⟨⟨[], by simp⟩, fun _ h => .inl h, fun _ h => .inl h, fun a o e _ => keep a o e, fun _ h => h⟩
        refine ⟨st1, ⟨sr.len, sr.nd, sr.sub, fun a ha => ?_, fun k a o h1 h2 => ?_⟩⟩
        · cases e : H a with
          | none => exact absurd e (sr.dom a ha)
          | some o => rw [keep a o e]; exact fun z => nomatch z
        · exact (sr.obj k a o h1 h2).mono (fun u e => keep a u e) fun v d r => r.step st1 sr.sub
      cases hg : g [.ins c []] (.hdl 0 :: l) with
      | no => rw [hg] at q; exact q
      | ex c' fs S' =>
        rw [hg] at q
        intro xo H' io' s' sr' rx
        have ex : ∃ o r, S' = o :: r ∧ noHf fs = true := by
          unfold kMkE at q
          split at q
          · rename_i heq; cases heq
          · rename_i x1 fs1 o1 r1 heq
            cases heq
            split at q
            · rename_i hz; exact ⟨o1, r1, rfl, hz⟩
            · exact q.elim
          · exact q.elim
        obtain ⟨o, r, rfl, hfs⟩ := ex
        simp only [kMkE, hfs, if_true] at q
        obtain ⟨st1, sr1⟩ := back s'
        obtain ⟨a, ws, e1, e2, e3, e4⟩ := rx
        exact q xo H' L io st1 sr1 ⟨a, ws, e1, fun z => e2 (.inl (.inl z)), e3, PairR.noh (fun a o e n => ⟨e, fun z => n (.inl (.inl z))⟩) e4 hfs⟩
      | ok d S' =>
        rw [hg] at q
        intro v H' io' s' sr' rv
        have ex : ∃ c' fs r, d = .non ∧ S' = .ins c' fs :: r ∧ c' = c ∧ noHf fs = true := by
          unfold kMkE at q
          split at q
          · rename_i c' fs r heq
            cases heq
            split at q
            · rename_i hz; exact ⟨c', fs, r, rfl, rfl, hz.1, hz.2⟩
            · exact q.elim
          · rename_i heq; cases heq
          · exact q.elim
        obtain ⟨c', fs, r, rfl, rfl, rfl, hfs⟩ := ex
        simp only [kMkE, hfs, and_self, if_true] at q
        cases rv
        refine ⟨rfl, ?_⟩
        obtain ⟨st1, sr1⟩ := back s'
        have hio : io'[0]? = some x := by
          obtain ⟨m, rfl⟩ := s'.pre
          rfl
        obtain ⟨dx', ws, e1, e2⟩ := sr'.obj 0 x _ hio rfl
        exact q (.ref x) H' L io st1 sr1 (.obj (sr.fresh hx) e1 (vrf_of (PairR.noh (fun a o e n => ⟨e, fun z => n (.inl (.inl z))⟩) e2 hfs)))
  · exact q.elim
/-- C(..), an instance that is a handle -/
def kMkH (c : Str) (g : DF) (as : List Dv) (S : Sto) : Res Dv := bnd (g (S ++ [.ins c []]) (.hdl S.length :: as)) fun d S' => match d with
  | .non => .ok (.hdl S.length) S'
  | _ => .no
def eMkH (c : Str) (dl : List Dv) (g : DF) (fa : DA) : DE := fun e S => bnd (fa e S) fun as S1 => kMkH c g (as ++ dl) S1
theorem mkH_spD {K : PySem.W.Frag} {W : WX} {c : Str} {g : DF} {st : St} {L : Addr → Prop} {io : List Addr} {H : Hp} {S : Sto} {vs : List V} {l : List Dv} {Q : VK} (sr : SR K L io H S) (r : VRs K L io H vs l) (q : Fin K W (VR K) st L io H Q (kMkH c g l S)) {x dx : Addr} (hx : H x = none) (hdx : H dx = none) (hn : dx ≠ x) :
    spD K g (.ref x :: vs) (upd (upd H dx (.own x)) x (.ins (He.ga K c) dx [])) (fun v H2 => v = .non ∧ Q (.ref x) H2) (fun c d H' => W c d st H') := by
  have sr1 : SR K L io (upd H dx (.own x)) S := sr.alloc hdx
  have hx1 : upd H dx (.own x) x = none := by rw [upd_ne hn.symm]; exact hx
  have sr2 : SR K (Ly L x) io (upd (upd H dx (.own x)) x (.ins (He.ga K c) dx [])) S := sr1.newV hx1
  have xn : x ∉ io := fun z => sr.dom x (sr.sub x z) hx
  have sr3 := sr2.addO (p := x) (ob := .ins c []) (.inr rfl) xn ⟨dx, [], upd_same, .nil⟩
  have keep : ∀ a o, H a = some o → (upd (upd H dx (.own x)) x (.ins (He.ga K c) dx [])) a = some o := fun a o e => by
    rw [upd_ne (ne_of_none e hx), upd_ne (ne_of_none e hdx)]; exact e
  have st0 : Stp L io H (Ly L x) (io ++ [x]) (upd (upd H dx (.own x)) x (.ins (He.ga K c) dx [])) :=
    ⟨⟨[x], rfl⟩, fun y hy => by
      rcases List.mem_append.mp hy with z | z
      · exact .inl z
      · simp at z; subst z; exact .inr hx, fun a z => z.elim .inl fun z => .inr (by rw [z]; exact hx), fun a o e _ => keep a o e, fun _ h => .inl h⟩
  have rx : ∀ {L' io' H'}, Stp (Ly L x) (io ++ [x]) (upd (upd H dx (.own x)) x (.ins (He.ga K c) dx [])) L' io' H' → VR K L' io' H' (.ref x) (.hdl S.length) := fun s => by
    obtain ⟨m, rfl⟩ := s.pre
    refine .hdl ?_
    rw [← sr.len]
    simp
  refine ⟨Ly L x, io ++ [x], S ++ [.ins c []], .hdl S.length :: l, sr3, .cons (rx (Stp.refl ..)) (r.step st0 sr.sub), ?_⟩
  unfold kMkH at q
  cases hg : g (S ++ [.ins c []]) (.hdl S.length :: l) with
  | no => rw [hg] at q; exact q
  | ex c' fs S' =>
    rw [hg] at q
    exact fun xo H' io' s' sr' rx => q xo H' _ io' (st0.trans s' sr.sub) sr' rx
  | ok d S' =>
    rw [hg] at q
    intro v H' io' s' sr' rv
    cases rv with
    | non => exact ⟨rfl, q (.ref x) H' _ io' (st0.trans s' sr.sub) sr' (rx s')⟩
    | _ => exact q.elim
theorem make_guards {A : Around} {C : Addr} {us : List Value} {kw : List (Str × Value)} : (A.under (.builtin "type.__call__" ⟨.ref C :: us, kw⟩)).guards = A.guards := by
  first
    | rfl
    | (simp [Around.under, Code.guards, pushGuards, Code.isGuard, guardIds])
theorem RoomG.make {k : Nat} {A : Around} (h : RoomG (k + 1) A) (C : Addr) (us : List Value) (kw : List (Str × Value)) : RoomG k (A.under (.builtin "type.__call__" ⟨.ref C :: us, kw⟩)) := ⟨h.r.make C us kw, make_guards.trans h.g⟩
section
variable {X : Cx} {W : WX} {p pos : Pos} {e : Expr} {es : List Expr} {c : Str} {fa : DA} {dl : List Dv} {g : DF} {k : Nat}
/-- C(..) runs: the new instance, then its __init__ -/
theorem run_mk {C f : Addr} {fd : FuncData} {ps : List Str} {sp : Sp} {dvs : List V} {ds : List Value} {pins : List (Addr × Obj)} {st : St} {H : Hp} {s : Shared} {Q : VK} {us : List Value} {vs : List V} (M : Mk X.K C f) (F : FnG X.prog X.w X.K X.mg X.base k f fd ps sp) (hr : RoomG (k + 1) X.A) (hb : Binds X.K fd ps ds) (hd : Vals dvs ds) (tk : Takes X W)
    (I : Inv X pins st H s) (r : Vals vs us)
    (h : ∀ x dx, H x = none → H dx = none → dx ≠ x → sp (.ref x :: (vs ++ dvs)) (upd (upd H dx (.own x)) x (.ins C dx [])) (fun v H2 => v = .non ∧ Q (.ref x) H2) (fun c d H' => W c d st H')) :
    wpAny (model X.prog X.w) X.A (call (.ref C) us) (EP X pins st Q) X.xe s := by
  have n1 := s.heap.objs.size
  have z := h (s.heap.objs.size + 1) s.heap.objs.size (I.hok.fresh (Nat.le_succ _)) (I.hok.fresh (Nat.le_refl _)) (Nat.ne_of_lt (Nat.lt_succ_self _))
  have J := Inv.made (C := C) I
  have r2 : Vals (V.ref (s.heap.objs.size + 1) :: (vs ++ dvs)) (Value.ref (s.heap.objs.size + 1) :: (us ++ ds)) := .cons rfl (r.append hd)
  have hl := (F.len _ _ _ _ z).symm.trans r2.length
  refine wpAny_call (make_map (f := f) I.kIn M.makes M.init (beq_iff_eq.mp M.fn) (codeAny_mono (F.run _ X.stack _ _ ⟨_, []⟩ _ _ _ _ (hr.make C us []) (J.env0.make C us []) (hb _ (Value.ref (s.heap.objs.size + 1) :: us) J.kIn hl.symm) r2 z) fun rr s' q => ?_))
  match rr, q with
  | .error e, q => exact tk e s' (XE.of_call J (fun _ _ _ q => q) q)
  | .ok .next, q => exact q.elim
  | .ok .brk, q => exact q.elim
  | .ok .cont, q => exact q.elim
  | .ok (.ret u), q =>
    obtain ⟨v, H', I3, rv, ev, q3⟩ := J.after q
    subst ev
    exact ⟨rv, V.ref (s.heap.objs.size + 1), H', I3, rfl, q3⟩
theorem qe_mkA {kk : List Dv → Sto → Res Dv} (hk : ∀ {st : St} {L : Addr → Prop} {io : List Addr} {H : Hp} {S : Sto} {vs : List V} {l : List Dv} {Q : VK}, SR X.K L io H S → VRs X.K L io H vs l → Fin X.K W (VR X.K) st L io H Q (kk l S) → ∀ {x dx : Addr}, H x = none → H dx = none → dx ≠ x →
      spD X.K g (.ref x :: vs) (upd (upd H dx (.own x)) x (.ins (He.ga X.K c) dx [])) (fun v H2 => v = .non ∧ Q (.ref x) H2) (fun c d H' => W c d st H')) (F : FK X.prog X.w X.K X.mg X.base k c dl g) (hr : RoomG (k + 1) X.A) (tk : Takes X W) (ha : QA X W (e :: es) fa) (hg : Gl X c) (hdb : (c == ("__debug__" : Str)) = false)
    (he : starEach (e :: es) X.env = (false, eval e X.env) :: starEach es X.env) (hpl : (backTo pos (starEach es X.env)).any (·.1) = false) : QE X W (.Call (.Name c p) (e :: es) [] pos) (fun e S => bnd (fa e S) fun as S1 => kk (as ++ dl) S1) := by
  obtain ⟨f, fd, ps, ds, dvs, F, hm, M, hb, hv, hd⟩ := F
  refine ⟨fun pins s st H Q I q => wpAny_Call_Name_kw (ld_glob I hg hm ?_ hdb)⟩
  refine PySem.W.callWith_K (h₀ := X.base) I.ok.mod.kin M.kp (thn (ha.run pos pins s st H _ I ?_) fun us s1 ⟨vs, H1, I1, r, q⟩ => ⟨I1.kIn, run_mk (Q := Q) M F hr hb hv tk I1 r q⟩) he hpl
  exact Rdg.bind (R := VRs X.K) (k := fun _ as S1 => kk (as ++ dl) S1) q fun L0 io0 H0 L io H1 e S as vs fr rv q x dx hx hdx hn => hk fr.st (rv.app (hd _ _ _)) q hx hdx hn
theorem qe_mk (F : FK X.prog X.w X.K X.mg X.base k c dl g) (hr : RoomG (k + 1) X.A) (tk : Takes X W) (ha : QA X W (e :: es) fa) (hg : Gl X c := by rfl) (hdb : (c == ("__debug__" : Str)) = false := by decide)
    (he : starEach (e :: es) X.env = (false, eval e X.env) :: starEach es X.env := by rfl) (hpl : (backTo pos (starEach es X.env)).any (·.1) = false := by rfl) : QE X W (.Call (.Name c p) (e :: es) [] pos) (eMk c dl g fa) := qe_mkA mk_spD F hr tk ha hg hdb he hpl
theorem qe_mkH (F : FK X.prog X.w X.K X.mg X.base k c dl g) (hr : RoomG (k + 1) X.A) (tk : Takes X W) (ha : QA X W (e :: es) fa) (hg : Gl X c := by rfl) (hdb : (c == ("__debug__" : Str)) = false := by decide)
    (he : starEach (e :: es) X.env = (false, eval e X.env) :: starEach es X.env := by rfl) (hpl : (backTo pos (starEach es X.env)).any (·.1) = false := by rfl) : QE X W (.Call (.Name c p) (e :: es) [] pos) (eMkH c dl g fa) := qe_mkA mkH_spD F hr tk ha hg hdb he hpl
end
end DL
namespace DL
open PySem L2
structure Dfn where
  ad : PySem.W.Frag → Addr
  name : Str
  qual : Str
  params : Arguments
  body : List Stmt
  scope : Scope
  dfl : List He.Dv := []
  kwd : List (Str × He.Dv) := []
def fnA (K : PySem.W.Frag) (a : Addr) : He.FnW := match K.lookup a with
  | some ⟨_, _, .func fd, _⟩ => some (fd.name, fd.qualname, fd.params, fd.body, fd.scope, fd.globals, fd.closure, fd.builtins)
  | _ => none
def Dfn.val (d : Dfn) : He.FnW := some (d.name, d.qual, d.params, .stmts d.body, d.scope, mainGlobals, [], builtinsNs)
def Dfn.dvs (K : PySem.W.Frag) (d : Dfn) : List V := d.dfl.map (He.Dv.v K)
def Dfn.kws (K : PySem.W.Frag) (d : Dfn) : List (Str × V) := d.kwd.map fun q => (q.1, q.2.v K)
def Dfn.ok (K : PySem.W.Frag) (d : Dfn) : Bool := PySem.W.keepIn K (.ref (d.ad K)) && (match K.lookup (d.ad K) with
  | some ⟨_, _, .func fd, _⟩ => PySem.W.codeIn K fd.code d.qual && (He.dflB K fd.defaults (d.dvs K) && He.kwdB K fd.kwdefaults (d.kws K))
  | _ => false)
theorem Dfn.funD {K : PySem.W.Frag} {d : Dfn} (e : fnA K (d.ad K) = d.val) (c : d.ok K = true) : ∃ fd, FunD K d.name d.qual d.params d.body d.scope (d.dvs K) (d.kws K) (d.ad K) fd := by
  obtain ⟨kp, c2⟩ := He.ba c
  unfold fnA at e
  cases q : K.lookup (d.ad K) with
  | none =>
    rw [q] at c2
    cases c2
  | some o =>
    obtain ⟨oc, od, dt, osl⟩ := o
    rw [q] at c2 e
    cases dt with
    | func fd =>
      obtain ⟨n1, n2, n3, n4, n5, n6, n7, n8, n9, n10, n11, n12, n13, n14, n15⟩ := fd
      have e2 : (some (n1, n2, n3, n4, n5, n6, n7, n15) : He.FnW) = some (d.name, d.qual, d.params, .stmts d.body, d.scope, mainGlobals, [], builtinsNs) := e
      simp only [Option.some.injEq, Prod.mk.injEq] at e2
      obtain ⟨h1, h2, h3, h4, h5, h6, h7, h8⟩ := e2
      subst h1 h2 h3 h4 h5 h6 h7 h8
      have c3 : (PySem.W.codeIn K n13 d.qual && (He.dflB K n8 (d.dvs K) && He.kwdB K n9 (d.kws K))) = true := c2
      obtain ⟨k1, k2⟩ := He.ba c3
      obtain ⟨k3, k4⟩ := He.ba k2
      exact ⟨_, ⟨oc, od, n8, n9, n10, n11, n12, n13, n14, osl, rfl, q, k1, He.dflB_ok k3, He.kwdB_ok k4⟩, kp⟩
    | _ => cases c2
abbrev AlN : Type := (Bool × List He.FnW) × List (Option (List (Option (Str × Int))))
def obsN (fa : List Ft) (fn : List Dfn) (ts : List He.Tab) (K : PySem.W.Frag) : AlN := (((fa.all fun f => f.ok K) && fn.all fun d => d.ok K, fn.map fun d => fnA K (d.ad K)), ts.map fun t => He.dicW K (t.1 K))
def valN (fn : List Dfn) (ts : List He.Tab) (w : World) : AlN := ((true, fn.map Dfn.val), ts.map fun t => some (He.keysIn w.params t.2))
def SaysN (fa : List Ft) (fn : List Dfn) (ts : List He.Tab) (w : World) (K : PySem.W.Frag) : Prop := obsN fa fn ts K = valN fn ts w
section
variable {fa : List Ft} {fn : List Dfn} {ts : List He.Tab} {w : World} {K : PySem.W.Frag}
theorem SaysN.fact (c : SaysN fa fn ts w K) (i : Nat) {f : Ft} (h : fa[i]? = some f := by rfl) : f.ok K = true := by
  have c1 := (He.ba (show ((fa.all fun f => f.ok K) && fn.all fun d => d.ok K) = true from congrArg (fun z : AlN => z.1.1) c)).1
  exact List.all_eq_true.mp c1 f (List.mem_of_getElem? h)
theorem SaysN.def_ (c : SaysN fa fn ts w K) (i : Nat) {d : Dfn} (h : fn[i]? = some d := by rfl) : ∃ fd, FunD K d.name d.qual d.params d.body d.scope (d.dvs K) (d.kws K) (d.ad K) fd := by
  have c2 := (He.ba (show ((fa.all fun f => f.ok K) && fn.all fun d => d.ok K) = true from congrArg (fun z : AlN => z.1.1) c)).2
  have e : fn.map (fun d => fnA K (d.ad K)) = fn.map Dfn.val := congrArg (fun z : AlN => z.1.2) c
  have e2 : (fn.map fun d => fnA K (d.ad K))[i]? = (fn.map Dfn.val)[i]? := by rw [e]
  rw [List.getElem?_map, List.getElem?_map, h] at e2
  exact Dfn.funD (Option.some.inj e2) (List.all_eq_true.mp c2 d (List.mem_of_getElem? h))
theorem SaysN.tab (c : SaysN fa fn ts w K) (i : Nat) {t : He.Tab} (h : ts[i]? = some t := by rfl) : ∃ es n, KDict K w (t.1 K) es n := by
  have e : ts.map (fun t => He.dicW K (t.1 K)) = ts.map fun t => some (He.keysIn w.params t.2) := congrArg (fun z : AlN => z.2) c
  have e2 : (ts.map fun t => He.dicW K (t.1 K))[i]? = (ts.map fun t => some (He.keysIn w.params t.2))[i]? := by rw [e]
  rw [List.getElem?_map, List.getElem?_map, h] at e2
  exact He.dicW_ok (Option.some.inj e2)
end
/-- the head's facts of classes -/
def faB (f : He.Fa) : Ft := .any fun K => f.ok K
theorem cls_f {K : PySem.W.Frag} {x : Str} (c : (faB (.cls x)).ok K = true) : Cls K (He.ga K x) := He.cls_ok c
theorem noat_f {K : PySem.W.Frag} {x f : Str} (c : (faB (.noat x f)).ok K = true) : NoAttr K (He.ga K x) f := He.noat_ok c
theorem meth_f {K : PySem.W.Frag} {x f : Str} (c : (faB (.meth x f)).ok K = true) : Meth K (He.ga K x) f (He.ma K (He.ga K x) f) := He.meth_ok c
theorem mkr_f {K : PySem.W.Frag} {x : Str} (c : (faB (.mkr x)).ok K = true) : Mk K (He.ga K x) (He.ma K (He.ga K x) "__init__") := He.mkr_ok c
/-- a dict of the top, its values -/
def tabB (x : Str) (l : List (Str × Dv)) : Ft := .any fun K => l.all fun q => match PySem.W.nsIn K (He.ga K x) q.1 with
  | some (some u) => litB K q.2 u
  | _ => false
/-- the module's dict x: its texts and their values -/
structure GlobD (K : PySem.W.Frag) (w : World) (mg : Str → Option Value) (x : Str) (l : List (Str × Dv)) : Prop where
  at_ : mg x = some (.ref (He.ga K x))
  d : ∃ es n, KDict K w (He.ga K x) es n
  v : ∀ k d, l.lookup k = some d → ∃ u v, PySem.W.nsIn K (He.ga K x) k = some (some u) ∧ RelV v u ∧ ∀ L io H, VR K L io H v d
theorem mem_lookup {k : Str} {d : Dv} : ∀ {l : List (Str × Dv)}, l.lookup k = some d → (k, d) ∈ l
  | [], h => by simp at h
  | (k', d') :: l, h => by
    rw [List.lookup_cons] at h
    cases e : k == k' with
    | true =>
      rw [e] at h
      cases h
      rw [beq_iff_eq.mp e]
      exact List.mem_cons_self
    | false => rw [e] at h; exact List.mem_cons_of_mem _ (mem_lookup h)
theorem tab_ok {K : PySem.W.Frag} {h : Heap} {w : World} {mg : Str → Option Value} (X : K.In h) (G : h.Ns mainGlobals mg) {x : Str} {l : List (Str × Dv)} (c1 : (Ft.glo x).ok K = true) (c2 : (tabB x l).ok K = true) (c3 : ∃ es n, KDict K w (He.ga K x) es n) : GlobD K w mg x l := by
  refine ⟨He.glo_ok X G c1, c3, fun k d hk => ?_⟩
  have c4 : (l.all fun q => match PySem.W.nsIn K (He.ga K x) q.1 with
    | some (some u) => litB K q.2 u
    | _ => false) = true := c2
  have h2 := List.all_eq_true.mp c4 (k, d) (mem_lookup hk)
  simp only at h2
  cases e : PySem.W.nsIn K (He.ga K x) k with
  | none => rw [e] at h2; cases h2
  | some r =>
    rw [e] at h2
    cases r with
    | none => cases h2
    | some u =>
      obtain ⟨v, r1, r2⟩ := litB_ok d u h2
      exact ⟨u, v, rfl, r1, r2⟩
end DL
namespace DL
open PySem PySem.Spec PyProof.Rows L2
def tabD (l : List (Str × Dv)) (d : Dv) (S : Sto) : Res Dv := match d with
  | .str z => (match l.lookup z with
    | some x => .ok x S
    | none => .no)
  | _ => .no
def eTab (l : List (Str × Dv)) (fi : DE) : DE := fun e S => bnd (fi e S) (tabD l)
/-- data of the top: stands for the data in every heap -/
def RKd (K : PySem.W.Frag) : (Addr → Prop) → List Addr → Hp → V → Dv → Prop := fun _ _ _ v d => ∀ L io H, VR K L io H v d
abbrev QK (X : Cx) (W : WX) (e : Expr) (f : DE) : Prop := PE X e (Rdg X.K W (RKd X.K) f)
theorem qe_k {X : Cx} {W : WX} {e : Expr} {f : DE} (h : QK X W e f) : QE X W e f := pe_imp h fun g H Q q => by
  obtain ⟨L0, io0, H0, L, io, e, S, fr, q⟩ := q
  refine ⟨L0, io0, H0, L, io, e, S, fr, ?_⟩
  cases h : f e S with
  | ok d S' => rw [h] at q; exact fun v H' L' io' s sr r => q v H' L' io' s sr (r _ _ _)
  | ex c fs S' => rw [h] at q; exact q
  | no => rw [h] at q; exact q
section
variable {X : Cx} {W : WX} {p pos : Pos} {x : Str} {i : Expr} {l : List (Str × Dv)} {fi : DE} {d : Dv}
theorem qk_tab (G : GlobD X.K X.w X.mg x l) (hi : QE X W i fi) (hg : Gl X x := by rfl) (hdb : (x == ("__debug__" : Str)) = false := by decide) (hs : NoSl i := by exact fun _ _ => rfl) : QK X W (.Subscript (.Name x p) i pos) (eTab l fi) := by
  obtain ⟨es, n, D⟩ := G.d
  have hx : PE X (.Name x p) (tC (.ref (He.ga X.K x))) := pe_glob (v := .ref (He.ga X.K x)) hg G.at_ rfl hdb
  refine ⟨fun pins s σ H Q I h => ?_⟩
  refine subD_of PySem.slot_dict_getitem.lookup hs (thn (hx.run pins s σ H (fun v H1 => v = .ref (He.ga X.K x) ∧ H1 = H) I ⟨rfl, rfl⟩) fun o s1 ⟨v, H1, I1, r1, e1, e2⟩ => ?_)
  subst e1 e2
  cases r1
  have h2 : rd X.K W fi σ H1 (fun y H2 => ∃ (z : Str) (u0 : Value) (v0 : V), y = .str z ∧ PySem.W.nsIn X.K (He.ga X.K x) z = some (some u0) ∧ RelV v0 u0 ∧ Q v0 H2) := by
    refine Rdg.bind (R := VR X.K) (R' := RKd X.K) (k := fun _ => tabD l) h fun L0 io0 H0 L io H2 e S d v fr rv q => ?_
    cases rv with
    | str z =>
      have q : Fin X.K W (RKd X.K) σ L io H2 Q (match l.lookup z with
        | some x => .ok x S
        | none => .no) := q
      cases hz : l.lookup z with
      | none => rw [hz] at q; exact q.elim
      | some d =>
        rw [hz] at q
        obtain ⟨u, v, k1, k2, k3⟩ := G.v z d hz
        exact ⟨z, u, v, rfl, k1, k2, q v H2 L io (Stp.refl ..) fr.st k3⟩
    | _ => exact q.elim
  refine thn (hi.run pins s1 σ H1 _ I1 h2) fun u s2 ⟨y, H2, I2, r2, z, u0, v0, e3, k1, k2, q⟩ => ⟨kd_type D I2, ?_⟩
  subst e3
  exact op_item_kd D pins s2 σ H2 (.ref (He.ga X.K x)) (.str z) _ _ Q I2 rfl r2 ⟨z, u0, v0, rfl, rfl, k1, k2, q⟩
end
def revD (d : Dv) (S : Sto) : Res Dv := match d with
  | .tup l => .ok (.tup l.reverse) S
  | _ => .no
def eRevT (f : DE) : DE := fun e S => bnd (f e S) revD
theorem VRs.rev {K : PySem.W.Frag} {L : Addr → Prop} {io : List Addr} {H : Hp} : ∀ {vs : List V} {l : List Dv}, VRs K L io H vs l → VRs K L io H vs.reverse l.reverse
  | _, _, .nil => .nil
  | _, _, .cons h t => by
    rw [List.reverse_cons, List.reverse_cons]
    exact (VRs.rev t).app (.cons h .nil)
def idxS (z : Str) : List Dv → Option Nat
  | [] => none
  | .str y :: l => if y = z then some 0 else (idxS z l).map (· + 1)
  | _ => none
def allS : List Dv → Bool
  | [] => true
  | .str _ :: l => allS l
  | _ => false
def tixE (l : List Dv) (x : Dv) (S : Sto) : Res Dv := match x with
  | .str z => if allS l then (match idxS z l with
    | some n => .ok (.int (n : Nat)) S
    | none => .no) else .no
  | _ => .no
def kTIx (fa : DE) (e : Env) (d : Dv) (S : Sto) : Res Dv := match d with
  | .tup l => bnd (fa e S) (tixE l)
  | _ => .no
def eTIx (f fa : DE) : DE := fun e S => bnd (f e S) (kTIx fa e)
theorem allS_ok {K : PySem.W.Frag} {L : Addr → Prop} {io : List Addr} {H : Hp} : ∀ {vs : List V} {l : List Dv}, VRs K L io H vs l → allS l = true → ∃ ys : List Str, l = ys.map Dv.str ∧ vs = ys.map V.str
  | _, _, .nil, _ => ⟨[], rfl, rfl⟩
  | _, _, .cons r t, h => by
    cases r with
    | str x =>
      obtain ⟨ys, e1, e2⟩ := allS_ok t (by simpa [allS] using h)
      exact ⟨x :: ys, by rw [e1]; rfl, by rw [e2]; rfl⟩
    | _ => simp [allS] at h
theorem idxS_ok {z : Str} : ∀ {ys : List Str} {n : Nat}, idxS z (ys.map Dv.str) = some n → ys[n]? = some z ∧ ∀ m, m < n → ys[m]? ≠ some z
  | [], n, h => by simp [idxS] at h
  | y :: ys, n, h => by
    simp only [List.map_cons, idxS] at h
    split at h
    · rename_i e
      cases h
      subst e
      exact ⟨rfl, fun m hm => absurd hm (Nat.not_lt_zero m)⟩
    · rename_i e
      obtain ⟨m, h1, rfl⟩ := map_ok h
      obtain ⟨h2, h3⟩ := idxS_ok h1
      refine ⟨by simpa using h2, fun k hk => ?_⟩
      cases k with
      | zero => simpa using e
      | succ k => simpa using h3 k (by omega)
theorem qe_tix {X : Cx} {W : WX} {apos cpos : Pos} {o a : Expr} {f fa : DE} (ho : QK X W o f) (ha : QE X W a fa)
    (he : starEach [a] X.env = [(false, eval a X.env)] := by rfl)
    (hbase : attributeBase o "index" X.env (eval o X.env) = eval o X.env := by rfl)
    (hfew : ((backTo cpos (starEach [a] X.env)).all (fun x => !x.1) && (backToKw cpos (keywordEach [] X.env)).all (fun x => x.1.isSome)
      && decide ([a].length + ([] : List Keyword).length + (if ([] : List Keyword).isEmpty then 0 else 1) < 30)) = true := by rfl)
    (hline : (apos.endLine == cpos.line) = true := by rfl) (hst : starEach [a] X.env = (false, eval a X.env) :: starEach [] X.env := by rfl) (hplain : (backTo cpos (starEach [] X.env)).any (·.1) = false := by rfl) :
    QE X W (.Call (.Attribute o "index" apos) [a] [] cpos) (eTIx f fa) := by
  refine pe_imp (pe_bm PySem.F.plainAttrs_tuple PySem.F.slot_tuple_index PySem.F.type_tuple_index mt_tup_index ho (pa_cons ha pa_nil he) hbase hfew hline hst hplain) fun g H Q q => ?_
  refine Rdg.bind (R := RKd X.K) (k := kTIx fa) q fun L0 io0 H0 L io H1 e S d v fr rv q => ?_
  cases d with
  | tup l =>
    have rk := rv (fun _ => False) [] (fun _ => none)
    cases rk with
    | tup nl e0 _ => cases e0
    | tupK tk t =>
      rename_i p xs
      refine ⟨.inr (.inl ⟨rfl, tk.2⟩), ?_⟩
      refine Fin.bind (R := VR X.K) (k := tixE l) fr q fun M2 io2 H2 S2 dx vx s2 fr2 rx q1 => ?_
      replace q := q1
      cases rx with
      | str z =>
        simp only [tixE] at q
        split at q
        · rename_i hal
          cases hi : idxS z l with
          | none => rw [hi] at q; exact q.elim
          | some n =>
            rw [hi] at q
            obtain ⟨ys, e1, e2⟩ := allS_ok t hal
            subst e1 e2
            obtain ⟨k3, k4⟩ := idxS_ok hi
            exact ⟨p, ys, z, n, rfl, rfl, tk.1 H2, k3, k4, q.ok1 fr2.st (VR.int _)⟩
        · exact q.elim
      | _ => exact q.elim
  | _ => exact q.elim
end DL
namespace DL
open PySem PySem.Spec PyProof.Rows L2
def eCm (c : Str) (g : DF) (fa : DA) : DE := fun e S => bnd (fa e S) fun l S1 => g S1 (.glo c :: l)
abbrev QKw (X : Cx) (W : WX) (kws : List Keyword) (f : DA) : Prop := PK X kws (rda X.K W f)
section
variable {X : Cx} {W : WX} {e : Expr} {kws : List Keyword} {f : DE} {fa : DA} {nm : Option Str} {kpos : Pos}
theorem qkw_nil : QKw X W [] aNil := ⟨fun pos pins s σ H Q I h => pk_nil.run pos pins s σ H Q I (by
  obtain ⟨L0, io0, H0, L, io, e, S, fr, q⟩ := h
  exact q [] H L io (Stp.refl ..) fr.st .nil)⟩
theorem qkw_cons (h : QE X W e f) (ht : QKw X W kws fa) : QKw X W (⟨nm, e, kpos⟩ :: kws) (aCons f fa) := ⟨fun pos pins s σ H Q I q => (pk_cons h ht).run pos pins s σ H Q I (by
  refine Rdg.bind (R := VR X.K) (k := fun e d S => bnd (fa e S) fun l S2 => .ok (d :: l) S2) q fun L0 io0 H0 L io H1 e S d v fr rv q => ?_
  refine Fin.bind (R := VRs X.K) (k := fun l S2 => .ok (d :: l) S2) fr q fun M2 io2 H2 S2 l ws s2 fr2 r2 q => ?_
  exact q _ H2 M2 io2 (Stp.refl ..) fr2.st (.cons (rv.step s2 fr.st.sub) r2))⟩
end
/-- the class c can be made, __init__ answers as g; B: how its arguments are bound -/
def FI (P : Program) (w : World) (K : PySem.W.Frag) (mg : Str → Option Value) (base : Heap) (k : Nat) (c : Str) (B : PySem.W.Frag → Addr → FuncData → List Str → Prop) (g : DF) : Prop :=
  ∃ (f : Addr) (fd : FuncData) (ps : List Str), FnG P w K mg base k f fd ps (spD K g) ∧ mg c = some (.ref (He.ga K c)) ∧ Mk K (He.ga K c) f ∧ B K f fd ps
/-- by B, keywords ks behind the object bind so: al lays the keywords' data in the order of the parameters -/
def KwB (K : PySem.W.Frag) (B : PySem.W.Frag → Addr → FuncData → List Str → Prop) (ks : List Str) (al : List Dv → List Dv) : Prop :=
  ∀ f fd ps, B K f fd ps → ∃ (gg : List Value → List Value → List Value) (gV : List V → List V → List V), KBn K fd ps 1 ks gg gV ∧
    ∀ (x : V) (zs : List V) (l : List Dv) L io H, zs.length = ks.length → VRs K L io H zs l → ∃ ws, gV [x] zs = x :: ws ∧ VRs K L io H ws (al l)
/-- .. values alone: dl, the data behind them -/
def PoB (K : PySem.W.Frag) (B : PySem.W.Frag → Addr → FuncData → List Str → Prop) (dl : List Dv) : Prop :=
  ∀ f fd ps, B K f fd ps → ∃ (ds : List Value) (dvs : List V), Binds K fd ps ds ∧ Vals dvs ds ∧ ∀ L io H, VRs K L io H dvs dl
theorem FI.fk {P : Program} {w : World} {K : PySem.W.Frag} {mg : Str → Option Value} {base : Heap} {k : Nat} {c : Str} {B : PySem.W.Frag → Addr → FuncData → List Str → Prop} {g : DF} {dl : List Dv} (F : FI P w K mg base k c B g) (b : PoB K B dl) : FK P w K mg base k c dl g := by
  obtain ⟨f, fd, ps, F, hm, M, hB⟩ := F
  obtain ⟨ds, dvs, h1, h2, h3⟩ := b f fd ps hB
  exact ⟨f, fd, ps, ds, dvs, F, hm, M, h1, h2, h3⟩
theorem run_makeKG {X : Cx} {W : WX} {k n : Nat} {f C : Addr} {fd : FuncData} {ps ks : List Str} {sp : Sp} {g : List Value → List Value → List Value} {gV : List V → List V → List V} {pins : List (Addr × Obj)} {σ : L2.St} {H : Hp} {s : Shared} {Q : VK} {us ws : List Value} {vs zs : List V} (M : Mk X.K C f) (F : FnG X.prog X.w X.K X.mg X.base k f fd ps sp) (hr : RoomG (k + 1) X.A) (hb : KBn X.K fd ps (n + 1) ks g gV) (tk : Takes X W)
    (I : Inv X pins σ H s) (r : Vals vs us) (rz : Vals zs ws) (l1 : vs.length = n) (l2 : zs.length = ks.length)
    (h : ∀ x dx, H x = none → H dx = none → dx ≠ x → sp (gV (.ref x :: vs) zs) (upd (upd H dx (.own x)) x (.ins C dx [])) (fun v H2 => v = .non ∧ Q (.ref x) H2) (fun c d H' => W c d σ H')) :
    wpAny (model X.prog X.w) X.A (call (.ref C) us (ks.zip ws)) (EP X pins σ Q) X.xe s := by
  have hq := h (s.heap.objs.size + 1) s.heap.objs.size (I.hok.fresh (Nat.le_succ _)) (I.hok.fresh (Nat.le_refl _)) (Nat.ne_of_lt (Nat.lt_succ_self _))
  have I2 := Inv.made (C := C) I
  have r1 : Vals (V.ref (s.heap.objs.size + 1) :: vs) (Value.ref (s.heap.objs.size + 1) :: us) := .cons rfl r
  have r2 := hb.rel r1 rz
  have n1 : (Value.ref (s.heap.objs.size + 1) :: us).length = n + 1 := by
    rw [List.length_cons, ← r.length, l1]
  refine wpAny_call (make_map (f := f) I.kIn M.makes M.init (beq_iff_eq.mp M.fn) (codeAny_mono (F.run _ X.stack _ _ ⟨Value.ref (s.heap.objs.size + 1) :: us, ks.zip ws⟩ (g (Value.ref (s.heap.objs.size + 1) :: us) ws) _ _ _ (hr.make C us (ks.zip ws))
    (I2.env0.make C us (ks.zip ws)) (hb.to _ (Value.ref (s.heap.objs.size + 1) :: us) ws I2.kIn n1 (rz.length.symm.trans l2)) r2 hq) fun rr s' q => ?_))
  match rr, q with
  | .error e, q => exact tk e s' (XE.of_call I2 (fun _ _ _ q => q) q)
  | .ok .next, q => exact q.elim
  | .ok .brk, q => exact q.elim
  | .ok .cont, q => exact q.elim
  | .ok (.ret u), q =>
    obtain ⟨v, H', I3, rv, ev, q3⟩ := I2.after q
    subst ev
    exact ⟨rv, V.ref (s.heap.objs.size + 1), H', I3, rfl, q3⟩
def eMkK (c : Str) (n : Nat) (al : List Dv → List Dv) (g : DF) (fa : DA) : DE := fun e S => bnd (fa e S) fun as S1 => if as.length = n then kMk c g (al as) S1 else .no
section
variable {X : Cx} {W : WX} {p pos : Pos} {kws : List Keyword} {c x : Str} {fa : DA} {al : List Dv → List Dv} {ks : List Str} {g : DF} {k : Nat} {B : PySem.W.Frag → Addr → FuncData → List Str → Prop}
theorem rd_mkK {gV : List V → List V → List V} (hv : ∀ (x : V) (zs : List V) (l : List Dv) L io H, zs.length = ks.length → VRs X.K L io H zs l → ∃ ws, gV [x] zs = x :: ws ∧ VRs X.K L io H ws (al l)) {st : L2.St} {H : Hp} {Q : VK} (q : rd X.K W (eMkK c ks.length al g fa) st H Q) :
    rda X.K W fa st H fun zs H2 => zs.length = ks.length ∧ ∀ x dx, H2 x = none → H2 dx = none → dx ≠ x → spD X.K g (gV [.ref x] zs) (upd (upd H2 dx (.own x)) x (.ins (He.ga X.K c) dx [])) (fun v H3 => v = .non ∧ Q (.ref x) H3) (fun c d H' => W c d st H') := by
  refine Rdg.bind (R := VRs X.K) (k := fun _ as S1 => if as.length = ks.length then kMk c g (al as) S1 else .no) q fun L0 io0 H0 L io H2 e S l v fr rv q1 => ?_
  replace q := q1
  clear q1
  split at q
  · rename_i hl
    have hz : v.length = ks.length := by rw [rv.len]; exact hl
    refine ⟨hz, fun x dx hx hdx hn => ?_⟩
    obtain ⟨ws, e1, e2⟩ := hv (.ref x) v l L io H2 hz rv
    rw [e1]
    exact mk_spD fr.st e2 q hx hdx hn
  · exact q.elim
theorem qe_mkK (F : FI X.prog X.w X.K X.mg X.base k c B g) (kb : KwB X.K B ks al) (hr : RoomG (k + 1) X.A) (tk : Takes X W) (ha : QKw X W kws fa) (hg : Gl X c := by rfl)
    (hall : (backToKw pos (keywordEach kws X.env)).all (·.1.isSome) = true := by rfl) (hks : (backToKw pos (keywordEach kws X.env)).filterMap (·.1) = ks := by rfl) (hdb : (c == ("__debug__" : Str)) = false := by decide)
    (hpl : ((backTo pos (starEach [] X.env)).any (·.1) || (backToKw pos (keywordEach kws X.env)).any (·.1.isNone)) = false := by rfl) : QE X W (.Call (.Name c p) [] kws pos) (eMkK c ks.length al g fa) := by
  obtain ⟨f, fd, ps, F, hm, hk, hB⟩ := F
  obtain ⟨gg, gV, hb, hv⟩ := kb f fd ps hB
  refine ⟨fun pins s σ H Q I h => ?_⟩
  refine wpAny_Call_Name_kw (ld_glob I hg hm ?_ hdb)
  refine PySem.W.callWith_KW0 (h₀ := X.base) I.ok.mod.kin hk.kp hall ?_ hpl
  refine thn (ha.run pos pins s σ H _ I (rd_mkK hv h)) fun ws s2 ⟨zs, H2, I2, rz, l2, q2⟩ => ⟨I2.kIn, ?_⟩
  rw [hks]
  exact run_makeKG (us := []) (vs := []) hk F hr hb tk I2 .nil rz rfl l2 q2
end
section
variable {P : Program} {w : World} {K : PySem.W.Frag} {mg : Str → Option Value} {base : Heap} {c m qual : Str} {st : Stmt} {N ps : List Str} {k np n : Nat} {fb : DS}
/-- a def's binding of values alone, no defaults -/
abbrev BindN (m qual : Str) (st : Stmt) (ps : List Str) : Prop := ∀ (kV doc pm : Value) (an : Option Addr) (cdv ct : Value) (us : List Value), us.length = ps.length → bindArgs (PySem.W.fnOf m qual (defArgs st) (defBody st) (defScope st) .none kV doc pm an cdv ct) ⟨us, []⟩ = pure (ps.zip us)
theorem fm_mk {kws : List (Str × V)} (F : ∃ fd, FunD K m qual (defArgs st) (defBody st) (defScope st) [] kws (He.ma K (He.ga K c) m) fd) (hc : Cls K (He.ga K c)) (hm : Meth K (He.ga K c) m (He.ma K (He.ga K c) m)) (Sc : FnScope N ps (defScope st)) (hbi : BindN m qual st ps)
    (hnp : ps.length = np) (hn : N.length = n) (hb : BodyG P w K mg base N qual (defScope st) (He.ma K (He.ga K c) m) (k + 1) (defBody st) fb) : FM P w K mg base (k + 2) c m [] (runF np n fb) := by
  subst hnp hn
  obtain ⟨fd, F⟩ := F
  exact ⟨_, fd, ps, [], [], fn_mk F Sc hb, hc, hm, F.bindsN hbi, .nil, fun _ _ _ => .nil⟩
theorem fm_no {kws : List (Str × V)} (F : ∃ fd, FunD K m qual (defArgs st) (defBody st) (defScope st) [] kws (He.ma K (He.ga K c) m) fd) (hc : Cls K (He.ga K c)) (hm : Meth K (He.ga K c) m (He.ma K (He.ga K c) m)) (hbi : BindN m qual st ps) : FM P w K mg base k c m [] gNo := by
  obtain ⟨fd, F⟩ := F
  exact ⟨_, fd, ps, [], [], FnG.never spD_no, hc, hm, F.bindsN hbi, .nil, fun _ _ _ => .nil⟩
/-- __init__ as the text says it -/
def InB (qual : Str) (st : Stmt) (ps : List Str) (dvs : PySem.W.Frag → List V) (kws : PySem.W.Frag → List (Str × V)) : PySem.W.Frag → Addr → FuncData → List Str → Prop := fun K f fd ps' => ps' = ps ∧ FunD K "__init__" qual (defArgs st) (defBody st) (defScope st) (dvs K) (kws K) f fd
theorem fi_mk {dvs : PySem.W.Frag → List V} {kws : PySem.W.Frag → List (Str × V)} (F : ∃ fd, FunD K "__init__" qual (defArgs st) (defBody st) (defScope st) (dvs K) (kws K) (He.ma K (He.ga K c) "__init__") fd) (hm : mg c = some (.ref (He.ga K c))) (M : Mk K (He.ga K c) (He.ma K (He.ga K c) "__init__")) (Sc : FnScope N ps (defScope st))
    (hnp : ps.length = np) (hn : N.length = n) (hb : BodyG P w K mg base N qual (defScope st) (He.ma K (He.ga K c) "__init__") (k + 1) (defBody st) fb) : FI P w K mg base (k + 2) c (InB qual st ps dvs kws) (runF np n fb) := by
  subst hnp hn
  obtain ⟨fd, F⟩ := F
  exact ⟨_, fd, ps, fn_mk F Sc hb, hm, M, rfl, F⟩
theorem fi_no {dvs : PySem.W.Frag → List V} {kws : PySem.W.Frag → List (Str × V)} (F : ∃ fd, FunD K "__init__" qual (defArgs st) (defBody st) (defScope st) (dvs K) (kws K) (He.ma K (He.ga K c) "__init__") fd) (hm : mg c = some (.ref (He.ga K c))) (M : Mk K (He.ga K c) (He.ma K (He.ga K c) "__init__")) :
    FI P w K mg base k c (InB qual st ps dvs kws) gNo := by
  obtain ⟨fd, F⟩ := F
  exact ⟨_, fd, ps, FnG.never spD_no, hm, M, rfl, F⟩
theorem pob0 (hbi : BindN "__init__" qual st ps) {kws : PySem.W.Frag → List (Str × V)} : PoB K (InB qual st ps (fun _ => []) kws) [] := fun f fd ps' ⟨e, F⟩ => by
  subst e
  exact ⟨[], [], F.bindsN hbi, .nil, fun _ _ _ => .nil⟩
end
end DL
namespace DL
open PySem PySem.Spec PyProof.Rows L2
/-- a source: a list (true) or a tuple -/
def SqS (K : PySem.W.Frag) (H : Hp) (b : Bool) (a : Addr) (xs : List V) : Prop := match b with
  | true => SqL K H a xs
  | false => SqT K H a xs
def SrcAt (b : Bool) (h : Heap) (a : Addr) (its : Array Value) : Prop := match b with
  | true => h.IsList a its
  | false => h.IsTuple a its
def IsIt (b : Bool) (h : Heap) (it a : Addr) (i : Nat) : Prop := match b with
  | true => h.IsListIter it a i
  | false => h.IsTupleIter it a i
def itObj (b : Bool) (a : Addr) : Obj := match b with
  | true => { cls := .type "list_iterator", data := .fields #[.ref a, .int 0 0] }
  | false => { cls := .type "tuple_iterator", data := .fields #[.ref a, .int 0 0] }
section
variable {X : Cx} {pins : List (Addr × Obj)} {σ : L2.St} {H : Hp} {s : Shared} {b : Bool} {a it : Addr} {xs ys : List V}
theorem src_at (I : Inv X pins σ H s) (hq : SqS X.K H b a xs) : ∃ its, Vals xs its ∧ SrcAt b s.heap a its.toArray := by
  cases b with
  | true => obtain ⟨its, rv, p, _⟩ := I.list hq; exact ⟨its, rv, p.isList⟩
  | false => obtain ⟨its, rv, p, _⟩ := I.tuple hq; exact ⟨its, rv, p⟩
theorem src_inj (I : Inv X pins σ H s) (h1 : SqS X.K H b a xs) (h2 : SqS X.K H b a ys) : xs = ys := by
  cases b with
  | true => exact I.list_inj h1 h2
  | false => exact I.tuple_inj h1 h2
theorem src_lt {h : Heap} {its : Array Value} (p : SrcAt b h a its) : a < h.objs.size := by
  cases b with
  | true => obtain ⟨_, q, _⟩ := (show h.IsList a its from p); exact Heap.lt_size q
  | false => obtain ⟨_, q, _⟩ := (show h.IsTuple a its from p); exact Heap.lt_size q
theorem it_obj {h : Heap} {i : Nat} (p : IsIt b h it a i) : ∃ o, h.get? it = some o ∧ ∀ v, o.data ≠ .cell v := by
  cases b with
  | true => obtain ⟨o, q, _, d⟩ := (show h.IsListIter it a i from p); exact ⟨o, q, fun v z => by rw [d] at z; cases z⟩
  | false => obtain ⟨o, q, _, d⟩ := (show h.IsTupleIter it a i from p); exact ⟨o, q, fun v z => by rw [d] at z; cases z⟩
theorem it_keep {h h' : Heap} {i : Nat} (p : IsIt b h it a i) (k : ∀ o, h.get? it = some o → h'.get? it = some o) : IsIt b h' it a i := by
  cases b with
  | true => exact Heap.IsListIter.at (show h.IsListIter it a i from p) k
  | false => exact Heap.IsTupleIter.at (show h.IsTupleIter it a i from p) k
theorem it_new {h : Heap} (e : h.get? it = some (itObj b a)) : IsIt b h it a 0 := by
  cases b with
  | true => exact ⟨_, e, rfl, rfl⟩
  | false => exact ⟨_, e, rfl, rfl⟩
theorem src_begins (b : Bool) (a : Addr) (its : Array Value) : Begins (.ref a) (itObj b a) fun h => SrcAt b h a its := by
  cases b with
  | true => exact begins_list a its
  | false => exact begins_tuple a its
theorem src_draws {prog : Program} {w : World} {A : Around} (hh : A.handled = none) (b : Bool) (it a : Addr) (hne : a ≠ it) (its : Array Value) :
    Draws prog w A it [it, a] its.size (fun i v => its[i]? = some v) (fun i h => IsIt b h it a i ∧ SrcAt b h a its) := by
  cases b with
  | true => exact Draws.list hh it a hne its
  | false => exact Draws.tuple hh it a hne its
end
theorem meets_enum1 {v : Value} {o : Obj} {H : Heap → Prop} (B : Begins v o H) :
    Meets (Builtin.«enumerate.__new__» ⟨[.type "enumerate", v], []⟩) (fun _ R s => H s.heap ∧
      R (.ok (.ret (.ref (s.heap.push o).objs.size))) { s with heap := (s.heap.push o).push { cls := .type "enumerate", data := .fields #[.none, .bool false, .ref s.heap.objs.size, rawInt 0, .none, .none] } }) :=
  .of_wp fun prog w A R s h => by
    obtain ⟨hp, g, d, tk, os⟩ := s; obtain ⟨h1, h⟩ := h
    have hsub := sub_enumerate
    have q1 : ∀ {A' : Around} {E : Value → Shared → Prop} {Q : Value → Shared → Prop}, Q (.ref hp.objs.size) ⟨hp.push o, g, d, tk, os⟩ → wpAny (model prog w) A' (pyIter v) Q E ⟨hp, g, d, tk, os⟩ :=
      fun q => B.iter prog w _ _ ⟨hp, g, d, tk, os⟩ _ h1 q
    wp_walk using q1
    refine wpAny_stack_any fun st => wpAny_pure ?_
    split
    · rename_i c _ _ _ _ _
      cases (c == Value.type "enumerate")
      · wp_walk using q1
        exact ⟨_, rfl, h⟩
      · wp_walk using q1
        exact ⟨_, rfl, h⟩
    · wp_walk using q1
      exact ⟨_, rfl, h⟩
theorem enum_begins1 {prog : Program} {w : World} {A : Around} {E : Value → Shared → Prop} {s : Shared} {v : Value} {o : Obj} {H : Heap → Prop} {Q : Value → Shared → Prop} (B : Begins v o H) (h1 : H s.heap)
    (h : ∀ h', IsEnum h' (s.heap.objs.size + 1) s.heap.objs.size 0 .none → h'.get? s.heap.objs.size = some o → h'.objs.size = s.heap.objs.size + 2 →
      (∀ b o, s.heap.get? b = some o → h'.get? b = some o) → Q (.ref (s.heap.objs.size + 1)) { s with heap := h' }) :
    wpAny (model prog w) A (call (.type "enumerate") [v]) Q E s := by
  refine callType_new F.called_enumerate (by decide) (F.typeCall_enumerate_1 _) (F.newCall_enumerate_1 _) (fun obj => F.args_object_init_2 obj _) F.entry_enumerate_new
    (meets_enum1 B) ⟨h1, ?_⟩
  have hz : (s.heap.push o).objs.size = s.heap.objs.size + 1 := Heap.size_push ..
  show _ ∧ _
  rw [hz]
  have he : IsEnum ((s.heap.push o).push { cls := .type "enumerate", data := .fields #[.none, .bool false, .ref s.heap.objs.size, rawInt 0, .none, .none] }) (s.heap.objs.size + 1) s.heap.objs.size 0 .none := by
    have := Heap.get?_push_size (s.heap.push o) (o := { cls := .type "enumerate", data := .fields #[.none, .bool false, .ref s.heap.objs.size, rawInt 0, .none, .none] }) rfl
    rw [hz] at this; exact this
  refine ⟨⟨_, he, rfl⟩, h _ he (Heap.get?_push_of_some _ (Heap.get?_push_size _ B.free)) (by rw [Heap.size_push, hz]) fun b o x => Heap.get?_push_of_some _ (Heap.get?_push_of_some _ x)⟩
/-- the source at a as it stands at each turn, each item in a new pair -/
def IteS (K : PySem.W.Frag) (b : Bool) (a : Addr) : It :=
  ⟨fun i H => ∃ (xs : List V) (x : V), SqS K H b a xs ∧ xs[i]? = some x, fun i H v H' => ∃ T x, v = .ref T ∧ H T = none ∧ H' = upd H T (.tup [.int (i : Nat), x]) ∧ ∀ xs, SqS K H b a xs → xs[i]? = some x, fun i H => ∃ xs : List V, SqS K H b a xs ∧ xs.length = i⟩
theorem turn_enumS {P : Program} {w : World} {K : PySem.W.Frag} {elts : List Expr} {kk : Nat} {tpos : Pos} (b : Bool) (a e it : Addr) (hne : e ≠ it) (ha : a ≠ it) (hae : a ≠ e) :
    Turn P w K (.Tuple elts kk tpos) (IteS K b a) [e, it] e (fun i h => (∃ old, IsEnum h e it ((i : Nat) : Int) old) ∧ IsIt b h it a i) where
  mem := by simp
  obj := fun i h st c hc => by
    obtain ⟨⟨old, he⟩, hi⟩ := st
    have e' : c = e ∨ c = it := by simpa using hc
    rcases e' with z | z
    · rw [z]; exact ⟨_, he, fun v q => nomatch q⟩
    · rw [z]; exact it_obj hi
  keep := fun i h h' st k => let ⟨⟨old, he⟩, hi⟩ := st; ⟨⟨old, k e (by simp) _ he⟩, it_keep hi fun o q => k it (by simp) o q⟩
  item := by
    intro X hP hw hK hc i pins s σ H E I hf st hg
    subst hP hw hK
    obtain ⟨⟨old, he⟩, hit⟩ := st
    obtain ⟨xs, x, hq, hx⟩ := hg
    obtain ⟨its, rv, p⟩ := src_at I hq
    obtain ⟨u, hu, ru⟩ := rv.get hx
    have hel : e < s.heap.objs.size := Heap.lt_size he
    have hil : it < s.heap.objs.size := by obtain ⟨_, q, _⟩ := it_obj hit; exact Heap.lt_size q
    have hl := rv.length
    have hlt : i < its.toArray.size := by
      have := (List.getElem?_eq_some_iff.mp hx).1
      simp; omega
    refine wpAny_pyNext_enum_itemD (src_draws (A := X.A.in1) (I.ok.hd hc) b it a ha its.toArray) he ⟨hit, p⟩ hlt hne (by simp [hne, Ne.symm hae]) fun y h' tk hy ho hit' hT hsz hk => ?_
    have hyu : y = u := by
      have : its[i]? = some y := by simpa using hy
      rw [hu] at this
      exact (Option.some.inj this).symm
    subst hyu
    refine ⟨_, rfl, wpAny_letOwnedTupleGo_enum (s := { s with heap := h', toks := tk + 1 }) ho fun h'' he' sb => ?_⟩
    have hT2 : h''.get? s.heap.objs.size = some { cls := .type "tuple", data := .seq #[.int i tk, y] } := (sb.2 _ (Nat.ne_of_gt hel)).trans hT
    have new : ObjOk X.prog X.w (upd H s.heap.objs.size (.tup [.int (i : Nat), x])) h'' s.heap.objs.size (.tup [.int (i : Nat), x]) :=
      ⟨by show 2 ≤ sizeLine; decide, [.int i tk, y], .cons ⟨_, rfl⟩ (.cons ru .nil), ⟨_, hT2, rfl, _, rfl⟩⟩
    have I1 : Inv X pins σ (upd H s.heap.objs.size (.tup [.int (i : Nat), x])) { s with heap := h'', toks := tk + 1 } :=
      I.turnedNew (ch := [e, it]) (fun b ob hb q => (sb.2 b (fun z => hb (by simp [z]))).trans (hk b ob (fun z => hb (by simp [z])) (fun z => hb (by simp [z])) q)) hf (Nat.le_refl _) new
    refine ⟨.ref s.heap.objs.size, _, I1, rfl, ⟨_, x, rfl, I.hok.fresh (Nat.le_refl _), rfl, fun ys hy => by rw [src_inj I hy hq]; exact hx⟩, ⟨⟨y, ?_⟩, it_keep hit'.1 fun o q => (sb.2 it (Ne.symm hne)).trans q⟩, fun b hb => ?_⟩
    · have e1 : ((i + 1 : Nat) : Int) = (i : Int) + 1 := by omega
      rw [e1]; exact he'
    · have hb' : b < s.heap.objs.size := by
        have e' : b = e ∨ b = it := by simpa using hb
        rcases e' with z | z
        · rw [z]; exact hel
        · rw [z]; exact hil
      rw [upd_ne (Nat.ne_of_lt hb')]
      exact (hf b hb).1
  done := by
    intro X hP hw hK hc i pins s σ H E I hf st hg
    subst hP hw hK
    obtain ⟨⟨old, he⟩, hit⟩ := st
    obtain ⟨xs, hq, hx⟩ := hg
    obtain ⟨its, rv, p⟩ := src_at I hq
    obtain ⟨f0, f1, f2, f3, f4, f5⟩ := hf it (by simp)
    have hl := rv.length
    have hz : i = its.toArray.size := by simp; omega
    refine wpAny_pyNext_enum_endD (src_draws (A := X.A.in1) (I.ok.hd hc) b it a ha its.toArray) he ⟨by rw [← hz]; exact hit, p⟩ fun h' eb => ⟨rfl, I.turned (t' := s.toks) (fun b o hb q => eb b o hb q) f0 f1 f3 f4 f5⟩
  self := fun A i s Q E st h => let ⟨⟨_, he⟩, _⟩ := st; wpAny_pyIter_enum he h
def iEnumS (K : PySem.W.Frag) (ta : TA) : TI := fun σ H R => ta σ H fun vs H1 => ∃ b a xs, vs = [.ref a] ∧ SqS K H1 b a xs ∧ R (IteS K b a) H1
theorem pi_enumS {X : Cx} {e : Expr} {ta : TA} {p pos tpos : Pos} {elts : List Expr} {kk : Nat} (hg : Gl X "enumerate") (hm : X.mg "enumerate" = none) (ha : PA X [e] ta) (hs : starEach [e] X.env = [(false, eval e X.env)] := by rfl) :
    PI X (.Tuple elts kk tpos) (.Call (.Name "enumerate" p) [e] [] pos) (iEnumS X.K ta) := by
  refine ⟨fun pins s σ H R I h => ?_⟩
  refine Call_ (ld_blt I hg hm boot_enumerate (PyProof.Rows.callWith_type1 (thn (ha.run pos pins s σ H _ I h) fun us s1 ⟨vs, H1, I1, r1, q1⟩ => ?_) hs rfl))
  obtain ⟨b, a, xs, ex, hq, q⟩ := q1
  subst ex
  cases r1 with
  | cons r rr =>
    cases rr
    cases r
    obtain ⟨its, rv, p'⟩ := src_at I1 hq
    have hlt := src_lt p'
    refine enum_begins1 (src_begins b a its.toArray) p' fun h' he hit hsz hk => wpAny_pyIter_enum he ?_
    have I2 : Inv X pins σ H1 { s1 with heap := h' } := I1.kept (t' := s1.toks) hk
    refine ⟨s1.heap.objs.size + 1, [s1.heap.objs.size + 1, s1.heap.objs.size], _, _, H1, rfl, I2, turn_enumS b a (s1.heap.objs.size + 1) s1.heap.objs.size (Nat.succ_ne_self _) (Nat.ne_of_lt hlt) (Nat.ne_of_lt (Nat.lt_succ_of_lt hlt)), ⟨⟨.none, he⟩, it_new hit⟩, fun b hb => ?_, q⟩
    have e' : b = s1.heap.objs.size + 1 ∨ b = s1.heap.objs.size := by simpa using hb
    have hle : s1.heap.objs.size ≤ b := by
      rcases e' with z | z
      · rw [z]; exact Nat.le_add_right _ _
      · rw [z]; exact Nat.le_refl _
    exact I1.fpOk hle (I1.hok.fresh hle)
def ItzS (K : PySem.W.Frag) (b c : Bool) (a d : Addr) : It :=
  ⟨fun i H => ∃ (xs ys : List V) (x y : V), SqS K H b a xs ∧ SqS K H c d ys ∧ xs[i]? = some x ∧ ys[i]? = some y,
    fun i H v H' => ∃ T x y, v = .ref T ∧ H T = none ∧ H' = upd H T (.tup [x, y]) ∧ (∀ xs, SqS K H b a xs → xs[i]? = some x) ∧ ∀ ys, SqS K H c d ys → ys[i]? = some y,
    fun i H => ∃ xs ys : List V, SqS K H b a xs ∧ SqS K H c d ys ∧ i ≤ xs.length ∧ i ≤ ys.length ∧ (i = xs.length ∨ i = ys.length)⟩
theorem turn_zipS {P : Program} {w : World} {K : PySem.W.Frag} {elts : List Expr} {kk : Nat} {tpos : Pos} (b c : Bool) {a d z TI TO i1 i2 : Addr} (D : ZipSep2 z TI TO i1 i2 [i1, a] [i2, d]) (na : a ≠ i1) (nd : d ≠ i2) :
    Turn P w K (.Tuple elts kk tpos) (ItzS K b c a d) [z, TI, TO, i1, i2] z (fun i h => IsZip h z TI TO .none ∧ IsTupOf2 h TI (.ref i1) (.ref i2) ∧ (∃ x y, IsTupOf2 h TO x y) ∧ IsIt b h i1 a i ∧ IsIt c h i2 d i) where
  mem := by simp
  obj := fun i h st q hc => by
    obtain ⟨hz, hTI, ⟨x, y, hTO⟩, h1, h2⟩ := st
    have e' : q = z ∨ q = TI ∨ q = TO ∨ q = i1 ∨ q = i2 := by simpa using hc
    rcases e' with e | e | e | e | e
    · rw [e]; exact ⟨_, hz, fun v q => nomatch q⟩
    · rw [e]; exact ⟨_, hTI, fun v q => nomatch q⟩
    · rw [e]; exact ⟨_, hTO, fun v q => nomatch q⟩
    · rw [e]; exact it_obj h1
    · rw [e]; exact it_obj h2
  keep := fun i h h' st k => by
    obtain ⟨hz, hTI, ⟨x, y, hTO⟩, h1, h2⟩ := st
    exact ⟨k z (by simp) _ hz, k TI (by simp) _ hTI, ⟨x, y, k TO (by simp) _ hTO⟩, it_keep h1 fun o q => k i1 (by simp) o q, it_keep h2 fun o q => k i2 (by simp) o q⟩
  item := by
    intro X hP hw hK hc i pins s σ H E I hf st hg
    subst hP hw hK
    obtain ⟨hz, hTI, ⟨x0, y0, hTO⟩, h1, h2⟩ := st
    obtain ⟨xs, ys, x, y, hqx, hqy, hx, hy⟩ := hg
    obtain ⟨its, rv, p⟩ := src_at I hqx
    obtain ⟨its2, rv2, p2⟩ := src_at I hqy
    obtain ⟨u, hu, ru⟩ := rv.get hx
    obtain ⟨u2, hu2, ru2⟩ := rv2.get hy
    have l1 := rv.length
    have l2 := rv2.length
    have hlt1 : i < its.toArray.size := by have := (List.getElem?_eq_some_iff.mp hx).1; simp; omega
    have hlt2 : i < its2.toArray.size := by have := (List.getElem?_eq_some_iff.mp hy).1; simp; omega
    have hzl : z < s.heap.objs.size := Heap.lt_size hz
    refine wpAny_pyNext_zipD2_item D (src_draws (A := X.A.in1) (I.ok.hd hc) b i1 a na its.toArray) (src_draws (A := X.A.in1) (I.ok.hd hc) c i2 d nd its2.toArray) hz hTI hTO ⟨h1, p⟩ ⟨h2, p2⟩ hlt1 hlt2 fun x1 x2 h' tk e1 e2 z' TO' h1' h2' hT hsz hk => ?_
    have hx1 : x1 = u := by
      have : its[i]? = some x1 := by simpa using e1
      rw [hu] at this
      exact (Option.some.inj this).symm
    have hx2 : x2 = u2 := by
      have : its2[i]? = some x2 := by simpa using e2
      rw [hu2] at this
      exact (Option.some.inj this).symm
    subst hx1 hx2
    refine ⟨_, rfl, wpAny_letOwnedTupleGo_zip (s := { s with heap := h', toks := tk }) z' fun h'' z'' sb => ?_⟩
    have hT2 : h''.get? s.heap.objs.size = some { cls := .type "tuple", data := .seq #[x1, x2] } := (sb.2 _ (Nat.ne_of_gt hzl)).trans hT
    have new : ObjOk X.prog X.w (upd H s.heap.objs.size (.tup [x, y])) h'' s.heap.objs.size (.tup [x, y]) :=
      ⟨by show 2 ≤ sizeLine; decide, [x1, x2], .cons ru (.cons ru2 .nil), ⟨_, hT2, rfl, _, rfl⟩⟩
    have I1 : Inv X pins σ (upd H s.heap.objs.size (.tup [x, y])) { s with heap := h'', toks := tk } :=
      I.turnedNew (t' := tk) (ch := [z, TI, TO, i1, i2]) (fun c o hb q => (sb.2 c (fun q' => hb (by simp [q']))).trans (hk c o (fun q' => hb (by simp [q'])) (fun q' => hb (by simp [q'])) (fun q' => hb (by simp [q'])) (fun q' => hb (by simp [q'])) q)) hf (Nat.le_refl _) new
    refine ⟨.ref s.heap.objs.size, _, I1, rfl, ⟨_, x, y, rfl, I.hok.fresh (Nat.le_refl _), rfl, fun l hl => by rw [src_inj I hl hqx]; exact hx, fun l hl => by rw [src_inj I hl hqy]; exact hy⟩, ⟨z'', ?_, ⟨x1, x2, ?_⟩, ?_, ?_⟩, fun c hcm => ?_⟩
    · exact (sb.2 _ D.TIz).trans (hk _ _ D.TIz D.TITO D.TIi1 D.TIi2 hTI)
    · exact (sb.2 _ D.TOz).trans TO'
    · exact it_keep h1'.1 fun o q => (sb.2 _ (Ne.symm D.zi1)).trans q
    · exact it_keep h2'.1 fun o q => (sb.2 _ (Ne.symm D.zi2)).trans q
    · have hlt : c < s.heap.objs.size := by
        have e' : c = z ∨ c = TI ∨ c = TO ∨ c = i1 ∨ c = i2 := by simpa using hcm
        rcases e' with q | q | q | q | q
        · rw [q]; exact hzl
        · rw [q]; exact Heap.lt_size hTI
        · rw [q]; exact Heap.lt_size hTO
        · rw [q]; obtain ⟨_, e1, _⟩ := it_obj h1; exact Heap.lt_size e1
        · rw [q]; obtain ⟨_, e2, _⟩ := it_obj h2; exact Heap.lt_size e2
      rw [upd_ne (Nat.ne_of_lt hlt)]
      exact (hf c hcm).1
  done := by
    intro X hP hw hK hc i pins s σ H E I hf st hg
    subst hP hw hK
    obtain ⟨hz, hTI, ⟨x0, y0, hTO⟩, h1, h2⟩ := st
    obtain ⟨xs, ys, hqx, hqy, le1, le2, hend⟩ := hg
    obtain ⟨its, rv, p⟩ := src_at I hqx
    obtain ⟨its2, rv2, p2⟩ := src_at I hqy
    have l1 := rv.length
    have l2 := rv2.length
    exact wpAny_pyNext_zipD2_end D (src_draws (A := X.A.in1) (I.ok.hd hc) b i1 a na its.toArray) (src_draws (A := X.A.in1) (I.ok.hd hc) c i2 d nd its2.toArray) hz hTI hTO ⟨h1, p⟩ ⟨h2, p2⟩ (by simp; omega) (by simp; omega) (by simp; omega) fun h' tk hk => ⟨rfl, I.turnedL (t' := tk) (ch := [z, TI, TO, i1, i2]) (fun c o hb q =>
      hk c o (fun q' => hb (by simp [q'])) (fun q' => hb (by simp [q'])) (fun q' => hb (by simp [q'])) (fun q' => hb (by simp [q'])) q) hf⟩
  self := fun A i s Q E st h => wpAny_pyIter_zip st.1 h
def iZipS (K : PySem.W.Frag) (ta : TA) : TI := fun σ H R => ta σ H fun vs H1 => ∃ b c a d xs ys, vs = [.ref a, .ref d] ∧ SqS K H1 b a xs ∧ SqS K H1 c d ys ∧ R (ItzS K b c a d) H1
theorem pi_zipS {X : Cx} {e e2 : Expr} {ta : TA} {p pos tpos : Pos} {elts : List Expr} {kk : Nat} (hg : Gl X "zip") (hm : X.mg "zip" = none) (ha : PA X [e, e2] ta)
    (hs : starEach [e, e2] X.env = (false, eval e X.env) :: starEach [e2] X.env := by rfl) (hpl : (backTo pos (starEach [e2] X.env)).any (·.1) = false := by rfl) :
    PI X (.Tuple elts kk tpos) (.Call (.Name "zip" p) [e, e2] [] pos) (iZipS X.K ta) := by
  refine ⟨fun pins s σ H R I h => ?_⟩
  refine Call_ (ld_blt I hg hm PyProof.Rows.boot_zip (PyProof.Rows.callWith_type1 (thn (ha.run pos pins s σ H _ I h) fun us s1 ⟨vs, H1, I1, r1, q1⟩ => ?_) hs hpl))
  obtain ⟨b, c, a, d, xs, ys, ex, hqx, hqy, q⟩ := q1
  subst ex
  cases r1 with
  | cons r rr =>
    cases rr with
    | cons r' rr =>
      cases rr
      cases r
      cases r'
      obtain ⟨its, rv, p1⟩ := src_at I1 hqx
      obtain ⟨its2, rv2, p2⟩ := src_at I1 hqy
      have n1 := src_lt p1
      have n2 := src_lt p2
      refine zip_begins2 (src_begins b a its.toArray) (src_begins c d its2.toArray) p1 p2 fun h' hz hTI hTO h1 h2 hsz hk => wpAny_pyIter_zip hz ?_
      have I2 : Inv X pins σ H1 { s1 with heap := h' } := I1.kept (t' := s1.toks) hk
      refine ⟨s1.heap.objs.size + 4, [s1.heap.objs.size + 4, s1.heap.objs.size + 2, s1.heap.objs.size + 3, s1.heap.objs.size, s1.heap.objs.size + 1], _, _, H1, rfl, I2, turn_zipS b c (zip_sep2 (fp1 := [a]) (fp2 := [d]) (by simpa using n1) (by simpa using n2)) (Nat.ne_of_lt n1) (Nat.ne_of_lt (Nat.lt_succ_of_lt n2)), ⟨hz, hTI, ⟨_, _, hTO⟩, it_new h1, it_new h2⟩, fun c hcm => ?_, q⟩
      have e' : c = s1.heap.objs.size + 4 ∨ c = s1.heap.objs.size + 2 ∨ c = s1.heap.objs.size + 3 ∨ c = s1.heap.objs.size ∨ c = s1.heap.objs.size + 1 := by simpa using hcm
      have hle : s1.heap.objs.size ≤ c := by
        rcases e' with z | z | z | z | z
        · rw [z]; exact Nat.le_add_right _ _
        · rw [z]; exact Nat.le_add_right _ _
        · rw [z]; exact Nat.le_add_right _ _
        · rw [z]; exact Nat.le_refl _
        · rw [z]; exact Nat.le_add_right _ _
      exact I1.fpOk hle (I1.hok.fresh hle)
section
variable {K : PySem.W.Frag} {L : Addr → Prop} {io : List Addr} {H : Hp}
/-- a list or tuple that no handle holds -/
def asSq : Dv → Option (Bool × List Dv)
  | .lst l => some (true, l)
  | .rol l => some (true, l)
  | .tup l => some (false, l)
  | _ => none
theorem asSq_ok {v : V} {d : Dv} {b : Bool} {l : List Dv} (r : VR K L io H v d) (h : asSq d = some (b, l)) : ∃ a xs, v = .ref a ∧ SqS K H b a xs ∧ VRs K L io H xs l := by
  cases d with
  | lst m => cases h; exact asF_ok r rfl
  | rol m => cases h; exact asF_ok r rfl
  | tup m => cases h; exact r.tupS
  | _ => cases h
def enumD (l : List Dv) : List Dv := l.mapIdx fun i d => .tup [.int (i : Nat), d]
theorem walk_enum {a : Addr} {d : Dv} {b : Bool} {l : List Dv} (r : VR K L io H (.ref a) d) (h : asSq d = some (b, l)) : WalkR K L io H (IteS K b a) (enumD l) where
  go := fun L1 io1 H1 S i q s sr hq => by
    obtain ⟨a', xs, e, hs, t⟩ := asSq_ok (r.stw s) h
    cases e
    unfold enumD at hq
    rw [List.getElem?_mapIdx] at hq
    cases hl : l[i]? with
    | none => rw [hl] at hq; cases hq
    | some y =>
      rw [hl] at hq
      cases hq
      obtain ⟨v, h1, h2⟩ := t.get hl
      refine ⟨⟨xs, v, hs, h1⟩, fun x H2 ⟨T, w, e1, hT, e2, y1⟩ => ?_⟩
      subst e1 e2
      have hv := y1 xs hs
      rw [h1] at hv
      cases hv
      exact ⟨sr.alloc hT, Stp.alloc hT, VR.newT sr hT (.cons (.int _) (.cons h2 .nil))⟩
  stop := fun L1 io1 H1 s => by
    obtain ⟨a', xs, e, hs, t⟩ := asSq_ok (r.stw s) h
    cases e
    refine ⟨xs, hs, ?_⟩
    unfold enumD
    rw [List.length_mapIdx, t.len]
def zipD (l m : List Dv) : List Dv := (l.zip m).map fun q => .tup [q.1, q.2]
theorem walk_zip {a a2 : Addr} {d d2 : Dv} {b b2 : Bool} {l m : List Dv} (r : VR K L io H (.ref a) d) (r2 : VR K L io H (.ref a2) d2) (h : asSq d = some (b, l)) (h2 : asSq d2 = some (b2, m)) : WalkR K L io H (ItzS K b b2 a a2) (zipD l m) where
  go := fun L1 io1 H1 S i q s sr hq => by
    obtain ⟨a', xs, e, hs, t⟩ := asSq_ok (r.stw s) h
    cases e
    obtain ⟨a', ys, e, hs2, t2⟩ := asSq_ok (r2.stw s) h2
    cases e
    unfold zipD at hq
    rw [List.getElem?_map] at hq
    cases hz : (l.zip m)[i]? with
    | none => rw [hz] at hq; cases hq
    | some y =>
      rw [hz] at hq
      cases hq
      obtain ⟨k1, k2⟩ := List.getElem?_zip_eq_some.mp hz
      obtain ⟨v, h3, h4⟩ := t.get k1
      obtain ⟨v2, h5, h6⟩ := t2.get k2
      refine ⟨⟨xs, ys, v, v2, hs, hs2, h3, h5⟩, fun x H2 ⟨T, w, w2, e1, hT, e2, y1, y2⟩ => ?_⟩
      subst e1 e2
      have hv := y1 xs hs
      rw [h3] at hv
      cases hv
      have hv2 := y2 ys hs2
      rw [h5] at hv2
      cases hv2
      exact ⟨sr.alloc hT, Stp.alloc hT, VR.newT sr hT (.cons h4 (.cons h6 .nil))⟩
  stop := fun L1 io1 H1 s => by
    obtain ⟨a', xs, e, hs, t⟩ := asSq_ok (r.stw s) h
    cases e
    obtain ⟨a', ys, e, hs2, t2⟩ := asSq_ok (r2.stw s) h2
    cases e
    refine ⟨xs, ys, hs, hs2, ?_⟩
    have e3 := t.len
    have e4 := t2.len
    unfold zipD
    rw [List.length_map, List.length_zip]
    omega
end
def enumR : List Dv → Sto → Res (List Dv)
  | [d], S => match asSq d with
    | some (_, l) => .ok (enumD l) S
    | none => .no
  | _, _ => .no
def zipR : List Dv → Sto → Res (List Dv)
  | [d, d2], S => match asSq d, asSq d2 with
    | some (_, l), some (_, m) => .ok (zipD l m) S
    | _, _ => .no
  | _, _ => .no
def iEnum' (fa : DA) : DL := fun e S => bnd (fa e S) enumR
def iZip' (fa : DA) : DL := fun e S => bnd (fa e S) zipR
section
variable {X : Cx} {W : WX} {pos p tpos : Pos} {a b : Expr} {elts : List Expr} {kk : Nat}
theorem qi_enum (hm : X.mg "enumerate" = none) {fa : DA} (ha : QA X W [a] fa) (hg : Gl X "enumerate" := by rfl) (hs : starEach [a] X.env = [(false, eval a X.env)] := by rfl) : QI X W (.Tuple elts kk tpos) (.Call (.Name "enumerate" p) [a] [] pos) (iEnum' fa) := by
  have hp := pi_enumS (elts := elts) (kk := kk) (tpos := tpos) (p := p) (pos := pos) hg hm ha hs
  refine ⟨fun pins s g H R I q => hp.run pins s g H R I ?_⟩
  obtain ⟨L0, io0, H0, L, io, e, S, fr, q⟩ := q
  refine FinI.bind (R := VRs X.K) (k := enumR) fr q fun L1 io1 H1 S1 l v s1 fr1 r1 q => ?_
  cases r1 with
  | nil => exact q.elim
  | cons r t =>
    cases t with
    | nil =>
      rename_i w d
      replace q : FinI X.K W g L1 io1 H1 R (match asSq d with
        | some (_, l) => .ok (enumD l) S1
        | none => .no) := q
      cases hd : asSq d with
      | none => rw [hd] at q; exact q.elim
      | some z =>
        obtain ⟨bb, l⟩ := z
        rw [hd] at q
        obtain ⟨a', xs, rfl, hs, t⟩ := asSq_ok r hd
        exact ⟨bb, a', xs, rfl, hs, q _ H1 L1 io1 (Stp.refl ..) fr1.st (walk_enum r hd)⟩
    | cons => exact q.elim
theorem qi_zip (hm : X.mg "zip" = none) {fa : DA} (ha : QA X W [a, b] fa) (hg : Gl X "zip" := by rfl) (hs : starEach [a, b] X.env = (false, eval a X.env) :: starEach [b] X.env := by rfl) (hpl : (backTo pos (starEach [b] X.env)).any (·.1) = false := by rfl) : QI X W (.Tuple elts kk tpos) (.Call (.Name "zip" p) [a, b] [] pos) (iZip' fa) := by
  have hp := pi_zipS (elts := elts) (kk := kk) (tpos := tpos) (p := p) (pos := pos) hg hm ha hs hpl
  refine ⟨fun pins s g H R I q => hp.run pins s g H R I ?_⟩
  obtain ⟨L0, io0, H0, L, io, e, S, fr, q⟩ := q
  refine FinI.bind (R := VRs X.K) (k := zipR) fr q fun L1 io1 H1 S1 l v s1 fr1 r1 q => ?_
  cases r1 with
  | nil => exact q.elim
  | cons r t =>
    cases t with
    | nil => exact q.elim
    | cons r2 t2 =>
      cases t2 with
      | nil =>
        rename_i w d w2 d2
        replace q : FinI X.K W g L1 io1 H1 R (match asSq d, asSq d2 with
          | some (_, l), some (_, m) => .ok (zipD l m) S1
          | _, _ => .no) := q
        cases hd : asSq d with
        | none => rw [hd] at q; exact q.elim
        | some z =>
          obtain ⟨bb, l⟩ := z
          cases hd2 : asSq d2 with
          | none => rw [hd, hd2] at q; exact q.elim
          | some z2 =>
            obtain ⟨bb2, m⟩ := z2
            rw [hd, hd2] at q
            obtain ⟨a', xs, rfl, hs, t⟩ := asSq_ok r hd
            obtain ⟨a2, ys, rfl, hs2, t2⟩ := asSq_ok r2 hd2
            exact ⟨bb, bb2, a', a2, xs, ys, rfl, hs, hs2, q _ H1 L1 io1 (Stp.refl ..) fr1.st (walk_zip r r2 hd hd2)⟩
      | cons => exact q.elim
end
end DL
namespace DL
open PySem L2
end DL
namespace DL
open PySem L2
def eChn (h h' : Sto → Dv → Dv → Option (Dv × Sto)) (f1 f2 f3 : DE) : DE := fun e S => bnd (f1 e S) fun a S1 => bnd (f2 e S1) fun b S2 => bnd (ofO (h S2 a b)) fun z S3 => match z with
  | .bl true => bnd (f3 e S3) fun c S4 => ofO (h' S4 b c)
  | .bl false => .ok (.bl false) S3
  | _ => .no
theorem rd_chn {K : PySem.W.Frag} {W : WX} {r r' : R2} {h h' : Sto → Dv → Dv → Option (Dv × Sto)} {f1 f2 f3 : DE} (ho : OpS K r h) (ho' : OpS K r' h') {g : St} {H : Hp} {Q : VK} (q : rd K W (eChn h h' f1 f2 f3) g H Q) : tChain r r' (Rdg K W (VX K) f1) (Rdg K W (VX K) f2) (Rdg K W (VX K) f3) g H Q := by
  unfold eChn at q
  refine Rdg.bind (R := VX K) (k := fun e a S1 => bnd (f2 e S1) fun b S2 => bnd (ofO (h S2 a b)) fun z S3 => match z with
    | .bl true => bnd (f3 e S3) fun c S4 => ofO (h' S4 b c)
    | .bl false => .ok (.bl false) S3
    | _ => .no) q fun L0 io0 H0 L io H1 e S a v fr ra q => ?_
  refine Fin.bind (R := VX K) (k := fun b S2 => bnd (ofO (h S2 a b)) fun z S3 => match z with
    | .bl true => bnd (f3 e S3) fun c S4 => ofO (h' S4 b c)
    | .bl false => .ok (.bl false) S3
    | _ => .no) fr q fun L2 io2 H2 S2 b w s2 fr2 rb q => ?_
  cases hz : h S2 a b with
  | none => rw [hz] at q; exact q.elim
  | some z =>
    obtain ⟨z, S3⟩ := z
    rw [hz] at q
    refine ho L2 io2 H2 S2 v w a b z S3 _ fr2.st (ra.step s2 fr.st.sub) rb hz fun u H3 L3 io3 s3 sr3 r3 => ?_
    cases r3 with
    | bl k =>
      refine ⟨k, rfl, ?_⟩
      have fr3 := fr2.step s3 sr3
      cases k with
      | true =>
        rw [if_pos rfl]
        have q3 := Fin.later (L := L2) (io := io2) (H := H2) q s3 fr2.st.sub
        refine Fin.bind (R := VX K) (k := fun c S4 => ofO (h' S4 b c)) fr3 q3 fun L4 io4 H4 S4 c y s4 fr4 rc q => ?_
        obtain ⟨d, S5, h1, h2⟩ := q.opt
        exact ho' L4 io4 H4 S4 w y b c d S5 Q fr4.st ((rb.step s3 fr2.st.sub).step s4 fr3.st.sub) rc h1 h2
      | false =>
        rw [if_neg Bool.false_ne_true]
        exact q (.bl false) H3 L3 io3 s3 sr3 (.bl false)
    | _ => exact q.elim
section
variable {X : Cx} {W : WX} {pos : Pos} {a b c : Expr} {f1 f2 f3 : DE} {r r' : R2} {h h' : Sto → Dv → Dv → Option (Dv × Sto)} {op op' : CmpOp}
theorem qe_chn (ho : OpR X (compareOp op) r) (hs : OpS X.K r h) (ho' : OpR X (compareOp op') r') (hs' : OpS X.K r' h') (ha : QX X W a f1) (hb : QX X W b f2) (hc : QX X W c f3) (hm : lastMarks [op, op'] [b, c] = false := by with_unfolding_all rfl) :
    QE X W (.Compare a [op, op'] [b, c] pos) (eChn h h' f1 f2 f3) := pe_imp (pe_chain ho ho' ha hb hc hm) fun g H Q q => rd_chn hs hs' q
theorem qt_chn (ho : OpR X (compareOp op) r) (hs : OpS X.K r h) (ho' : OpR X (compareOp op') r') (hs' : OpS X.K r' h') (ha : QX X W a f1) (hb : QX X W b f2) (hc : QX X W c f3) (hm : lastMarks [op, op'] [b, c] = false := by with_unfolding_all rfl) :
    QT X W (.Compare a [op, op'] [b, c] pos) (tVal (eChn h h' f1 f2 f3)) := pt_imp (pt_chain ho ho' ha hb hc hm) fun g H Q q => by
  have z := rd_tval q
  exact (show tTest (tChain r r' (Rdg X.K W (VX X.K) f1) (Rdg X.K W (VX X.K) f2) (Rdg X.K W (VX X.K) f3)) g H Q from rd_chn hs hs' z)
theorem os_lt {K : PySem.W.Frag} : OpS K (rI0 fun i j => .bl (decide (i < j))) (pu2 ltD) := ops_int0 fun _ _ _ _ _ => .bl _
theorem os_le {K : PySem.W.Frag} : OpS K (rI0 fun i j => .bl (decide (i ≤ j))) (pu2 leD) := ops_int0 fun _ _ _ _ _ => .bl _
end
def rngK (neg : Bool) (a : Dv) (l : List Dv) (S : Sto) : Res Dv := match a, l with
  | .int i, [.int lo, .int hi] => .ok (.bl (if neg then !decide (lo ≤ i ∧ i < hi) else decide (lo ≤ i ∧ i < hi))) S
  | _, _ => .no
def eRngIn (neg : Bool) (f1 : DE) (fa : DA) : DE := fun e S => bnd (f1 e S) fun a S1 => bnd (fa e S1) fun l S2 => rngK neg a l S2
/-- data as a whole, dicts too -/
def keyP : Key → PyData
  | .inl i => .int i
  | .inr x => .str x
mutual
inductive Dq (K : PySem.W.Frag) (H : Hp) : V → PyData → Prop
  | non : Dq K H .non .none
  | bl (b : Bool) : Dq K H (.bl b) (.bool b)
  | int (i : Int) : Dq K H (.int i) (.int i)
  | str (x : Str) : Dq K H (.str x) (.str x)
  | lst {a : Addr} {xs : List V} {ds : List PyData} : SqL K H a xs → DqAll K H xs ds → Dq K H (.ref a) (.list ds)
  | tup {a : Addr} {xs : List V} {ds : List PyData} : SqT K H a xs → DqAll K H xs ds → Dq K H (.ref a) (.tuple ds)
  | dct {a : Addr} {kvs : List (Key × V)} {ds : List PyData} : Rd H a (.dK kvs) → DqAll K H (kvs.map (·.2)) ds → Dq K H (.ref a) (.dict ((kvs.map fun q => keyP q.1).zip ds))
inductive DqAll (K : PySem.W.Frag) (H : Hp) : List V → List PyData → Prop
  | nil : DqAll K H [] []
  | cons {v : V} {vs : List V} {d : PyData} {ds : List PyData} : Dq K H v d → DqAll K H vs ds → DqAll K H (v :: vs) (d :: ds)
end
theorem DqAll.len {K : PySem.W.Frag} {H : Hp} : ∀ {vs : List V} {ds : List PyData}, DqAll K H vs ds → vs.length = ds.length
  | _, _, .nil => rfl
  | _, _, .cons _ t => by rw [List.length_cons, List.length_cons, t.len]
section
variable {X : Cx} {pins : List (Addr × Obj)} {σ : St} {H : Hp} {s : Shared}
/-- keys of a dict are read -/
theorem keys_read {P : Program} {w : World} {h : Heap} : ∀ {es : List DictEntry} {vs : List (Key × Value)}, Pairs (mixKind P w) es vs → ReadsAll h (es.map (·.key)) (vs.map fun q => keyP q.1) []
  | _, _, .nil => .nil
  | e :: es, (k, v) :: vs, .cons hk hv t => by
    have h1 : Reads h e.key (keyP k) [] := by
      rcases keyIs_shape (k := k) (v := e.key) hk with ⟨i, u, rfl, e1⟩ | ⟨x, u, rfl, e1⟩
      · rw [e1]; exact .int i u
      · rw [e1]; exact .str x u
    exact .cons (as := []) h1 (keys_read t)
theorem vals_at {P : Program} {w : World} : ∀ {es : List DictEntry} {vs : List (Key × Value)}, Pairs (mixKind P w) es vs → es.map (·.val) = vs.map (·.2)
  | _, _, .nil => rfl
  | e :: es, (k, v) :: vs, .cons hk hv t => by
    have hv : e.val = v := hv
    rw [List.map_cons, List.map_cons, hv, vals_at t]
theorem kv_keys : ∀ {kvs : List (Key × V)} {vs : List (Key × Value)}, KV kvs vs → kvs.map (fun q => keyP q.1) = vs.map (fun q => keyP q.1) ∧ Vals (kvs.map (·.2)) (vs.map (·.2))
  | _, _, .nil => ⟨rfl, .nil⟩
  | _, _, .cons r t => by
    obtain ⟨h1, h2⟩ := kv_keys t
    exact ⟨by rw [List.map_cons, List.map_cons, h1, r.1], .cons r.2 h2⟩
theorem Dq.reads (I : Inv X pins σ H s) (hs : SysB X.base) {v : V} {d : PyData} (h : Dq X.K H v d) : ∀ u, RelV v u → ∃ as, Reads s.heap u d as ∧ sysModules ∉ as := by
  refine Dq.rec (motive_1 := fun v d _ => ∀ u, RelV v u → ∃ as, Reads s.heap u d as ∧ sysModules ∉ as) (motive_2 := fun vs ds _ => ∀ us, Vals vs us → ∃ as, ReadsAll s.heap us ds as ∧ sysModules ∉ as) ?_ ?_ ?_ ?_ ?_ ?_ ?_ ?_ ?_ h
  · intro u r; cases r; exact ⟨_, Reads.none, fun z => nomatch z⟩
  · intro b u r; cases r; exact ⟨_, Reads.bool b, fun z => nomatch z⟩
  · intro i u r; obtain ⟨t, rfl⟩ := r; exact ⟨_, Reads.int i t, fun z => nomatch z⟩
  · intro x u r; obtain ⟨t, rfl⟩ := r; exact ⟨_, Reads.str x t, fun z => nomatch z⟩
  · intro a xs ds hl _ ih u r
    cases r
    obtain ⟨its, rv, ⟨o, n, ho, hc, _, hd⟩, _⟩ := I.list hl
    obtain ⟨as, hr, hn⟩ := ih its rv
    refine ⟨_, Reads.list ho hc hd hr, fun z => ?_⟩
    rcases List.mem_cons.mp z with z | z
    · obtain ⟨mm, o', es, ep, e1, e2, _⟩ := hs
      have e3 := I.bk _ _ e1
      rw [z, ho] at e3
      cases e3
      rw [hd] at e2
      cases e2
    · exact hn z
  · intro a xs ds hl _ ih u r
    cases r
    obtain ⟨its, rv, ⟨o, ho, hc, n, hd⟩, _⟩ := I.tuple hl
    obtain ⟨as, hr, hn⟩ := ih its rv
    exact ⟨_, Reads.tuple ho hc hd hr, hn⟩
  · intro a kvs ds ha hv ih u r
    cases r
    obtain ⟨_, hsm, vs, kv, o, es, ep, e1, e2, e3, _, e5, _⟩ := dk_rd I.hok ha
    obtain ⟨k1, k2⟩ := kv_keys kv
    have hl : (kvs.map fun q => keyP q.1).length = ds.length := by rw [List.length_map, ← hv.len, List.length_map]
    obtain ⟨as, hr, hn⟩ := ih _ k2
    have q1 : ReadsAll s.heap (es.toList.map (·.key)) (((kvs.map fun q => keyP q.1).zip ds).map (·.1)) [] := by
      rw [List.map_fst_zip (Nat.le_of_eq hl), k1]; exact keys_read e5
    have q2 : ReadsAll s.heap (es.toList.map (·.val)) (((kvs.map fun q => keyP q.1).zip ds).map (·.2)) as := by
      rw [List.map_snd_zip (Nat.le_of_eq hl.symm), vals_at e5]; exact hr
    refine ⟨_, Reads.dict e1 e2.1 e3 q1 q2, fun z => ?_⟩
    simp only [List.cons_append, List.nil_append, List.mem_cons] at z
    rcases z with z | z
    · rw [z] at hsm; simp at hsm
    · exact hn z
  · intro us r; cases r; exact ⟨_, ReadsAll.nil, fun z => nomatch z⟩
  · intro v vs d ds _ _ ih1 ih2 us r
    cases r with
    | cons r1 r2 =>
      obtain ⟨as, q1, n1⟩ := ih1 _ r1
      obtain ⟨bs, q2, n2⟩ := ih2 _ r2
      exact ⟨_, ReadsAll.cons q1 q2, fun z => (List.mem_append.mp z).elim n1 n2⟩
end
mutual
def toQ : Dv → Option PyData
  | .non => some .none
  | .bl b => some (.bool b)
  | .int i => some (.int i)
  | .str x => some (.str x)
  | .tup l => (toQs l).map .tuple
  | .lst l => (toQs l).map .list
  | .rol l => (toQs l).map .list
  | .dic l => (toQp l).map fun ds => .dict ((l.map fun q => keyP q.1).zip ds)
  | .obj _ _ => none
  | .hdl _ => none
  | .glo _ => none
  | .ty _ => none
def toQs : List Dv → Option (List PyData)
  | [] => some []
  | d :: l => (toQ d).bind fun p => (toQs l).map fun ps => p :: ps
def toQp : List (Key × Dv) → Option (List PyData)
  | [] => some []
  | (_, d) :: l => (toQ d).bind fun p => (toQp l).map fun ps => p :: ps
end
theorem toQp_eq : ∀ l : List (Key × Dv), toQp l = toQs (l.map (·.2))
  | [] => rfl
  | (k, d) :: l => by
    rw [List.map_cons]
    unfold toQp toQs
    rw [toQp_eq l]
section
variable {K : PySem.W.Frag} {L : Addr → Prop} {io : List Addr} {H : Hp} {S : Sto}
theorem toQ_ok {v : V} {d : Dv} (r : VR K L io H v d) : ∀ p, toQ d = some p → Dq K H v p := by
  refine VR.rec (motive_1 := fun v d _ => ∀ p, toQ d = some p → Dq K H v p) (motive_2 := fun vs ds _ => ∀ ps, toQs ds = some ps → DqAll K H vs ps) (motive_3 := fun kvs l _ => (∀ ps, toQs (l.map (·.2)) = some ps → DqAll K H (kvs.map (·.2)) ps) ∧ (l.map fun q => keyP q.1) = kvs.map fun q => keyP q.1) (motive_4 := fun _ _ _ => True)
    ?_ ?_ ?_ ?_ ?_ ?_ ?_ ?_ ?_ ?_ ?_ ?_ ?_ ?_ ?_ ?_ ?_ ?_ ?_ ?_ r
  · intro p e; cases e; exact .non
  · intro b p e; cases e; exact .bl b
  · intro b p e; cases e; exact .int b
  · intro b p e; cases e; exact .str b
  · intro a xs ds _ h _ ih p e
    simp only [toQ] at e
    obtain ⟨ps, h1, rfl⟩ := map_ok e
    exact .tup (SqT.of h) (ih ps h1)
  · intro a xs ds h _ ih p e
    simp only [toQ] at e
    obtain ⟨ps, h1, rfl⟩ := map_ok e
    exact .tup (h.1 H) (ih ps h1)
  · intro a xs ds _ h _ ih p e
    simp only [toQ] at e
    obtain ⟨ps, h1, rfl⟩ := map_ok e
    exact .lst (SqL.of h) (ih ps h1)
  · intro a xs ds _ h _ ih p e
    simp only [toQ] at e
    obtain ⟨ps, h1, rfl⟩ := map_ok e
    exact .lst (.inl h) (ih ps h1)
  · intro a xs ds h _ ih p e
    simp only [toQ] at e
    obtain ⟨ps, h1, rfl⟩ := map_ok e
    exact .lst (h H) (ih ps h1)
  · intro a kvs l _ h _ ih p e
    simp only [toQ, toQp_eq] at e
    obtain ⟨ps, h1, rfl⟩ := map_ok e
    rw [ih.2]
    exact .dct h (ih.1 ps h1)
  · intro a dx c vs fs _ _ _ _ p e; simp [toQ] at e
  · intro a k _ p e; simp [toQ] at e
  · intro x p e; simp [toQ] at e
  · intro x p e; simp [toQ] at e
  · intro ps e; simp [toQs] at e; subst e; exact .nil
  · intro v vs d ds _ _ ih1 ih2 ps e
    simp only [toQs] at e
    cases h1 : toQ d with
    | none => rw [h1] at e; cases e
    | some p =>
      rw [h1] at e
      obtain ⟨ps', h2, rfl⟩ := map_ok e
      exact .cons (ih1 p h1) (ih2 ps' h2)
  · exact ⟨fun ps e => by simp [toQs] at e; subst e; exact .nil, rfl⟩
  · intro k v vs d ds _ _ ih1 ih2
    refine ⟨fun ps e => ?_, by rw [List.map_cons, List.map_cons, ih2.2]⟩
    simp only [List.map_cons, toQs] at e
    cases h1 : toQ d with
    | none => rw [h1] at e; cases e
    | some p =>
      rw [h1] at e
      obtain ⟨ps', h2, rfl⟩ := map_ok e
      exact .cons (ih1 p h1) (ih2.1 ps' h2)
  · trivial
  · intros; trivial
theorem derefQ_all (n : Nat) (ih : ∀ (d : Dv) (v : V) (p : PyData), VR K L io H v d → toQ (deref n S d) = some p → Dq K H v p) : ∀ (l : List Dv) (vs : List V) (ps : List PyData), VRs K L io H vs l → toQs (l.map (deref n S)) = some ps → DqAll K H vs ps
  | [], vs, ps, r, e => by cases r; simp [toQs] at e; subst e; exact .nil
  | d :: l, vs, ps, r, e => by
    cases r with
    | cons h t =>
      simp only [toQs, List.map_cons] at e
      cases q : toQ (deref n S d) with
      | none => rw [q] at e; cases e
      | some p =>
        rw [q] at e
        obtain ⟨ps', q2, rfl⟩ := map_ok e
        exact .cons (ih d _ p h q) (derefQ_all n ih l _ ps' t q2)
theorem pair_vals : ∀ {kvs : List (Key × V)} {l : List (Key × Dv)}, PairR (VR K L io H) kvs l → VRs K L io H (kvs.map (·.2)) (l.map (·.2)) ∧ (l.map fun q => keyP q.1) = kvs.map fun q => keyP q.1
  | _, _, .nil => ⟨.nil, rfl⟩
  | _, _, .cons r t => by
    obtain ⟨h1, h2⟩ := pair_vals t
    exact ⟨.cons r.2 h1, by rw [List.map_cons, List.map_cons, h2, r.1]⟩
theorem derefQ_dic (n : Nat) (ih : ∀ (d : Dv) (v : V) (p : PyData), VR K L io H v d → toQ (deref n S d) = some p → Dq K H v p) {l : List (Key × Dv)} {kvs : List (Key × V)} {a : Addr} {p : PyData} (h : Rd H a (.dK kvs)) (t : PairR (VR K L io H) kvs l) (e : toQ (.dic (l.map fun q => (q.1, deref n S q.2))) = some p) : Dq K H (.ref a) p := by
  simp only [toQ, toQp_eq] at e
  obtain ⟨ps, h1, rfl⟩ := map_ok e
  obtain ⟨t1, t2⟩ := pair_vals t
  have e1 : (l.map fun q => (q.1, deref n S q.2)).map (·.2) = (l.map (·.2)).map (deref n S) := by simp [List.map_map, Function.comp_def]
  have e2 : ((l.map fun q => (q.1, deref n S q.2)).map fun q => keyP q.1) = kvs.map fun q => keyP q.1 := by rw [← t2]; simp [List.map_map, Function.comp_def]
  rw [e1] at h1
  rw [e2]
  exact .dct h (derefQ_all n ih _ _ ps t1 h1)
theorem derefQ (sr : SR K L io H S) : ∀ (n : Nat) (d : Dv) (v : V) (p : PyData), VR K L io H v d → toQ (deref n S d) = some p → Dq K H v p
  | 0, d, v, p, r, e => toQ_ok r p e
  | n + 1, .tup l, v, p, r, e => by
    obtain ⟨a, xs, rfl, s, t⟩ := r.tupS
    simp only [deref, toQ] at e
    obtain ⟨ps, q, rfl⟩ := map_ok e
    exact .tup s (derefQ_all n (derefQ sr n) l xs ps t q)
  | n + 1, .lst l, v, p, r, e => by
    simp only [deref, toQ] at e
    obtain ⟨ps, q, rfl⟩ := map_ok e
    cases r with
    | lst nl h t => exact .lst (SqL.of h) (derefQ_all n (derefQ sr n) l _ ps t q)
  | n + 1, .rol l, v, p, r, e => by
    simp only [deref, toQ] at e
    obtain ⟨ps, q, rfl⟩ := map_ok e
    cases r with
    | rol nl h t => exact .lst (.inl h) (derefQ_all n (derefQ sr n) l _ ps t q)
    | rolK h t => exact .lst (h H) (derefQ_all n (derefQ sr n) l _ ps t q)
  | n + 1, .dic l, v, p, r, e => by
    cases r with
    | dic nl h t => exact derefQ_dic n (derefQ sr n) h t.pair e
  | n + 1, .hdl k, v, p, r, e => by
    cases q0 : S[k]? with
    | none => simp [deref, q0, toQ] at e
    | some o =>
      cases r with
      | hdl hk =>
        cases o with
        | lst l =>
          simp only [deref, q0, toQ] at e
          obtain ⟨ps, q, rfl⟩ := map_ok e
          obtain ⟨xs, h, t⟩ := sr.obj k _ _ hk q0
          exact .lst (SqL.of h) (derefQ_all n (derefQ sr n) l xs ps t q)
        | dct l =>
          simp only [deref, q0] at e
          obtain ⟨kvs, h, t⟩ := sr.obj k _ _ hk q0
          exact derefQ_dic n (derefQ sr n) (.inl h) t e
        | ins c fs => simp [deref, q0, toQ] at e
  | n + 1, .non, v, p, r, e => toQ_ok r p e
  | n + 1, .bl _, v, p, r, e => toQ_ok r p e
  | n + 1, .int _, v, p, r, e => toQ_ok r p e
  | n + 1, .str _, v, p, r, e => toQ_ok r p e
  | n + 1, .obj _ _, v, p, r, e => toQ_ok r p e
  | n + 1, .glo _, v, p, r, e => toQ_ok r p e
  | n + 1, .ty _, v, p, r, e => toQ_ok r p e
theorem resQ (sr : SR K L io H S) {v : V} {d : Dv} {p : PyData} (r : VX K L io H v d) (e : toQ (res S d) = some p) : Dq K H v p := by
  rcases r with r | ⟨a, o, rfl, rfl, np, ob⟩
  · exact derefQ sr 40 d v p r e
  · cases o with
    | lst l =>
      simp only [vwO, res, deref, toQ] at e
      obtain ⟨ps, q, rfl⟩ := map_ok e
      obtain ⟨xs, h, t⟩ := ob
      exact .lst (SqL.of h) (derefQ_all 39 (derefQ sr 39) l xs ps t q)
    | dct l =>
      obtain ⟨kvs, h, t⟩ := ob
      exact derefQ_dic 39 (derefQ sr 39) (.inl h) t e
    | ins c fs => simp [vwO, res, deref, toQ] at e
end
def reprD (S : Sto) : List Dv → Option (Dv × Sto)
  | [d] => (toQ (res S d)).bind fun p => if p.showable && decide (p.depth ≤ 60) && decide (p.shown.length ≤ sizeLine) then some (.str p.shown, S) else none
  | _ => none
def rRepr (K : PySem.W.Frag) : List V → Hp → VK → Prop := fun xs H Q => ∃ v p, xs = [v] ∧ Dq K H v p ∧ p.showable = true ∧ p.depth ≤ 60 ∧ p.shown.length ≤ sizeLine ∧ Q (.str p.shown) H
theorem cas_repr {K : PySem.W.Frag} : CaS K (rRepr K) reprD := by
  intro L io H S xs l d S' Q sr rv e q
  cases rv with
  | nil => cases e
  | cons r t =>
    cases t with
    | cons r2 t2 => cases e
    | nil =>
      rename_i v dd
      simp only [reprD] at e
      cases h : toQ (res S dd) with
      | none => rw [h] at e; cases e
      | some p =>
        rw [h] at e
        simp only [Option.bind_some] at e
        split at e
        · rename_i hc
          simp only [Bool.and_eq_true, decide_eq_true_eq] at hc
          cases e
          exact ⟨v, p, rfl, resQ sr r h, hc.1.1, hc.1.2, hc.2, q _ H L io (Stp.refl ..) sr (.str _)⟩
        · cases e
theorem call_repr {X : Cx} {k : Nat} (hr : RoomG k X.A) (hs : SysB X.base) : CallR X (.builtin "repr") (rRepr X.K) := by
  intro pins s σ H xs us Q I r h
  obtain ⟨v, p, rfl, hd, h1, h2, h3, q⟩ := h
  obtain ⟨u, rfl, ru⟩ := vals1 r
  cases hd with
  | non => cases ru; exact PySem.P.repr_of_none ⟨.str _, H, I.tok _, ⟨_, rfl⟩, q⟩
  | bl b => cases ru; exact PySem.P.repr_of_bool ⟨.str _, H, I.tok _, ⟨_, rfl⟩, q⟩
  | int i => obtain ⟨t, rfl⟩ := ru; exact PySem.P.repr_of_int (by simpa [PyData.showable] using h1) ⟨.str _, H, I.tok _, ⟨_, rfl⟩, q⟩
  | str x => obtain ⟨t, rfl⟩ := ru; exact PySem.P.repr_of_str ⟨.str _, H, I.tok _, ⟨_, rfl⟩, q⟩ h3
  | lst hl ha =>
    obtain ⟨as, z, nz⟩ := Dq.reads I hs (.lst hl ha) _ ru
    cases ru
    have hu := hr.r.un
    exact repr_of_reads' z h1 (fun _ => nz) hr.g (by omega) (fun _ _ e => e) (fun h' u tk hk => ⟨.str _, H, I.kept hk, ⟨_, rfl⟩, q⟩) h3
  | tup hl ha =>
    obtain ⟨as, z, nz⟩ := Dq.reads I hs (.tup hl ha) _ ru
    cases ru
    have hu := hr.r.un
    exact repr_of_reads' z h1 (fun _ => nz) hr.g (by omega) (fun _ _ e => e) (fun h' u tk hk => ⟨.str _, H, I.kept hk, ⟨_, rfl⟩, q⟩) h3
  | dct hl ha =>
    obtain ⟨as, z, nz⟩ := Dq.reads I hs (.dct hl ha) _ ru
    cases ru
    have hu := hr.r.un
    exact repr_of_reads' z h1 (fun _ => nz) hr.g (by omega) (fun _ _ e => e) (fun h' u tk hk => ⟨.str _, H, I.kept hk, ⟨_, rfl⟩, q⟩) h3
end DL
namespace DL
open PySem L2
def NewO (K : PySem.W.Frag) (H : Hp) (L' : Addr → Prop) (io' : List Addr) (H' : Hp) (v : V) (o : Ob) : Prop := ∃ p, v = .ref p ∧ H p = none ∧ L' p ∧ p ∉ io' ∧ ObR K L' io' H' p o
abbrev DN := Env → Sto → Res Ob
def FinN (K : PySem.W.Frag) (W : WX) (g : St) (L : Addr → Prop) (io : List Addr) (H : Hp) (Q : V → Hp → Prop) : Res Ob → Prop
  | .ok d S' => ∀ (v : V) (H' : Hp) (L' : Addr → Prop) (io' : List Addr), Stp L io H L' io' H' → SR K L' io' H' S' → NewO K H L' io' H' v d → Q v H'
  | .ex c fs S' => ∀ (x : Option Addr) (H' : Hp) (L' : Addr → Prop) (io' : List Addr), Stp L io H L' io' H' → SR K L' io' H' S' → ExR K L' io' H' x fs → W (.ref (He.ga K c)) x g H'
  | .no => False
def rdN (K : PySem.W.Frag) (W : WX) (f : DN) : TE := fun g H Q => ∃ (L0 : Addr → Prop) (io0 : List Addr) (H0 : Hp) (L : Addr → Prop) (io : List Addr) (e : Env) (S : Sto), FR K L0 io0 H0 L io H g e S ∧ FinN K W g L io H Q (f e S)
abbrev QN (X : Cx) (W : WX) (e : Expr) (f : DN) : Prop := PE X e (rdN X.K W f)
def nL (f : DL) : DN := fun e S => bnd (f e S) fun l S' => .ok (.lst l) S'
def nD (f : DD) : DN := fun e S => bnd (f e S) fun l S' => .ok (.dct l) S'
theorem qn_f {X : Cx} {W : WX} {a : Expr} {f : DL} (h : QF X W a f) : QN X W a (nL f) := pe_imp h fun g H Q q => by
  obtain ⟨L0, io0, H0, L, io, e, S, fr, q⟩ := q
  refine ⟨L0, io0, H0, L, io, e, S, fr, ?_⟩
  unfold nL at q
  cases hf : f e S with
  | ok l S' => rw [hf] at q; exact fun v H' L' io' s sr ⟨p, xs, hv, hp, lp, np, h1, h2⟩ => q v H' L' io' s sr ⟨p, hv, hp, lp, np, xs, h1, h2⟩
  | ex c fs S' => rw [hf] at q; exact q
  | no => rw [hf] at q; exact q
theorem qn_d {X : Cx} {W : WX} {a : Expr} {f : DD} (h : QD X W a f) : QN X W a (nD f) := pe_imp h fun g H Q q => by
  obtain ⟨L0, io0, H0, L, io, e, S, fr, q⟩ := q
  refine ⟨L0, io0, H0, L, io, e, S, fr, ?_⟩
  unfold nD at q
  cases hf : f e S with
  | ok l S' => rw [hf] at q; exact fun v H' L' io' s sr ⟨p, xs, hv, hp, lp, np, h1, h2⟩ => q v H' L' io' s sr ⟨p, hv, hp, lp, np, xs, h1, h2⟩
  | ex c fs S' => rw [hf] at q; exact q
  | no => rw [hf] at q; exact q
/-- frozen at once -/
def eFrzN (f : DN) : DE := fun e S => bnd (f e S) fun o S' => .ok (frzO o) S'
/-- a handle at once -/
def eHdlN (f : DN) : DE := fun e S => bnd (f e S) fun o S' => .ok (.hdl S'.length) (S' ++ [o])
theorem FR.setN' {K : PySem.W.Frag} {L0 L L1 : Addr → Prop} {io0 io io1 : List Addr} {H0 H H1 : Hp} {g : St} {e : Env} {S S1 : Sto} (fr : FR K L0 io0 H0 L io H g e S) (s : Stp L io H L1 io1 H1) (sr : SR K L1 io1 H1 S1) {v : V} {o : Ob} (n : NewO K H L1 io1 H1 v o) (i : Nat) :
    FR K L0 io0 H0 L1 io1 H1 (g.set i (some v)) (e.set i (.own o)) S1 := by
  obtain ⟨p, rfl, hp, lp, np, ob⟩ := n
  refine (fr.step s sr).setS i (fun d h => by cases h) (fun l' h => ?_) fun q _ _ hq j hj v1 v2 hg => ?_
  · cases h; exact ⟨p, rfl, lp, np, fr.fresh0 hp, ob⟩
  · cases hq
    by_cases hn : e[j]? = none
    · have := List.getElem?_eq_none_iff.mp hn
      rw [← fr.len] at this
      rw [List.getElem?_eq_none_iff.mpr this] at hg
      cases hg
    · obtain ⟨o, ho, _⟩ := fr.ownAt v1 v2 hn hg
      rw [hp] at ho; cases ho
def sOwnN (i : Nat) (f : DN) : DS := sBind f fun e o S => .nx (e.set i (.own o)) S
section
variable {X : Cx} {W : WX} {pos : Pos} {a b c : Expr} {x y z : Str}
theorem qs_ownN (hN : X.N.Nodup) (i : Nat) {pos' : Pos} {f : DN} (h : QN X W a f) (hi : X.N[i]? = some x := by rfl) (hx : Loc X.env.scope x := by first | exact Or.inl rfl | exact Or.inr rfl) (hs : swapsWith a (some (.Name x pos')) pos.line X.env = pure false := by rfl) (hf : X.fn x = true ∨ X.env.scope.names.lookup x = some .local := by first | exact .inl rfl | exact .inr rfl) :
    QS X W (.Assign [.Name x pos'] a pos) (sOwnN i f) := ps_imp (ps_set hN hi hx h hs hf) fun D g H h => by
  obtain ⟨L0, io0, H0, L, io, e, S, fr, h⟩ := h
  refine ⟨L0, io0, H0, L, io, e, S, fr, ?_⟩
  unfold sOwnN sBind at h
  cases hf : f e S with
  | ok o S1 =>
    rw [hf] at h
    intro v H1 L1 io1 s1 sr1 r1
    exact h _ H1 L1 io1 (s1.stw fr.st.sub) (fr.setN' s1 sr1 r1 i)
  | ex c fs S1 =>
    rw [hf] at h
    exact fun x H' L' io' s sr r => h x g H' L' io' (s.stw fr.st.sub) (fr.step s sr) r
  | no => rw [hf] at h; exact h
abbrev DB := Env → Sto → Res (List Sl)
/-- the own ones stand apart -/
inductive SlsR (K : PySem.W.Frag) (L : Addr → Prop) (io : List Addr) (H : Hp) : Hp → List V → List Sl → Prop
  | nil {Hs : Hp} : SlsR K L io H Hs [] []
  | va {Hs : Hp} {v : V} {d : Dv} {vs : List V} {ss : List Sl} : VR K L io H v d → SlsR K L io H Hs vs ss → SlsR K L io H Hs (v :: vs) (.va d :: ss)
  | own {Hs : Hp} {p : Addr} {o : Ob} {H1 : Hp} {vs : List V} {ss : List Sl} : Hs p = none → L p → p ∉ io → ObR K L io H p o → H1 p ≠ none → (∀ q, H1 q = none → Hs q = none) → SlsR K L io H H1 vs ss → SlsR K L io H Hs (.ref p :: vs) (.own o :: ss)
def FinB (K : PySem.W.Frag) (W : WX) (g : St) (L : Addr → Prop) (io : List Addr) (H : Hp) (Q : List V → Hp → Prop) : Res (List Sl) → Prop
  | .ok d S' => ∀ (v : List V) (H' : Hp) (L' : Addr → Prop) (io' : List Addr), Stp L io H L' io' H' → SR K L' io' H' S' → SlsR K L' io' H' H v d → Q v H'
  | .ex c fs S' => ∀ (x : Option Addr) (H' : Hp) (L' : Addr → Prop) (io' : List Addr), Stp L io H L' io' H' → SR K L' io' H' S' → ExR K L' io' H' x fs → W (.ref (He.ga K c)) x g H'
  | .no => False
def rdB (K : PySem.W.Frag) (W : WX) (f : DB) : TA := fun g H Q => ∃ (L0 : Addr → Prop) (io0 : List Addr) (H0 : Hp) (L : Addr → Prop) (io : List Addr) (e : Env) (S : Sto), FR K L0 io0 H0 L io H g e S ∧ FinB K W g L io H Q (f e S)
abbrev QB (X : Cx) (W : WX) (es : List Expr) (f : DB) : Prop := PA X es (rdB X.K W f)
def bNil : DB := fun _ S => .ok [] S
def bVa (f : DE) (fb : DB) : DB := fun e S => bnd (f e S) fun d S1 => bnd (fb e S1) fun l S2 => .ok (.va d :: l) S2
def bOwn (f : DN) (fb : DB) : DB := fun e S => bnd (f e S) fun o S1 => bnd (fb e S1) fun l S2 => .ok (.own o :: l) S2
theorem qb_nil : QB X W [] bNil := pa_imp pa_nil fun g H Q q => by
  obtain ⟨L0, io0, H0, L, io, e, S, fr, h⟩ := q
  exact h [] H L io (Stp.refl ..) fr.st .nil
theorem back_none {K : PySem.W.Frag} {L L1 : Addr → Prop} {io io1 : List Addr} {H H1 : Hp} {S1 : Sto} (s : Stp L io H L1 io1 H1) (sr1 : SR K L1 io1 H1 S1) {q : Addr} (h : H1 q = none) : H q = none := by
  rcases s.back h with z | z
  · obtain ⟨m, rfl⟩ := s.pre
    exact absurd h (sr1.dom q (sr1.sub q (List.mem_append_left _ z)))
  · exact z
theorem SlsR.weaken {K : PySem.W.Frag} {Hs Hs' : Hp} {L : Addr → Prop} {io : List Addr} {H : Hp} (hw : ∀ q, Hs q = none → Hs' q = none) : ∀ {vs : List V} {ss : List Sl}, SlsR K L io H Hs vs ss → SlsR K L io H Hs' vs ss
  | _, _, .nil => .nil
  | _, _, .va r t => .va r (t.weaken hw)
  | _, _, .own h1 h2 h3 h4 h5 h6 t => .own (hw _ h1) h2 h3 h4 h5 (fun q z => hw q (h6 q z)) t
theorem qb_va {es : List Expr} {f : DE} {fb : DB} (ha : QE X W a f) (hr : QB X W es fb) (hs : starEach (a :: es) X.env = (false, eval a X.env) :: starEach es X.env := by rfl) : QB X W (a :: es) (bVa f fb) := pa_imp (pa_cons ha hr hs) fun g H Q q => by
  obtain ⟨L0, io0, H0, L, io, e, S, fr, q⟩ := q
  refine ⟨L0, io0, H0, L, io, e, S, fr, ?_⟩
  unfold bVa at q
  cases hf : f e S with
  | no => rw [hf] at q; exact q
  | ex c fs S1 => rw [hf] at q; exact q
  | ok d S1 =>
    rw [hf] at q
    intro v H1 L1 io1 s1 sr1 r1
    have fr1 := fr.step s1 sr1
    refine ⟨L0, io0, H0, L1, io1, e, S1, fr1, ?_⟩
    cases hb : fb e S1 with
    | no => simp only [bnd_ok, hb] at q; exact q
    | ex c fs S2 => simp only [bnd_ok, hb] at q; exact fun x H' L' io' s sr r => q x H' L' io' (s1.trans s fr.st.sub) sr r
    | ok ss S2 =>
      simp only [bnd_ok, hb] at q
      intro vs H2 L2 io2 s2 sr2 r2
      exact q _ H2 L2 io2 (s1.trans s2 fr.st.sub) sr2 (.va (r1.step s2 fr1.st.sub) (r2.weaken fun q h => back_none s1 sr1 h))
theorem qb_own {es : List Expr} {f : DN} {fb : DB} (ha : QN X W a f) (hr : QB X W es fb) (hs : starEach (a :: es) X.env = (false, eval a X.env) :: starEach es X.env := by rfl) : QB X W (a :: es) (bOwn f fb) := pa_imp (pa_cons ha hr hs) fun g H Q q => by
  obtain ⟨L0, io0, H0, L, io, e, S, fr, q⟩ := q
  refine ⟨L0, io0, H0, L, io, e, S, fr, ?_⟩
  unfold bOwn at q
  cases hf : f e S with
  | no => rw [hf] at q; exact q
  | ex c fs S1 => rw [hf] at q; exact q
  | ok o S1 =>
    rw [hf] at q
    rintro v H1 L1 io1 s1 sr1 ⟨p, rfl, hp, lp, np, ob⟩
    have fr1 := fr.step s1 sr1
    obtain ⟨u, hu⟩ := ob.has
    refine ⟨L0, io0, H0, L1, io1, e, S1, fr1, ?_⟩
    cases hb : fb e S1 with
    | no => simp only [bnd_ok, hb] at q; exact q
    | ex c fs S2 => simp only [bnd_ok, hb] at q; exact fun x H' L' io' s sr r => q x H' L' io' (s1.trans s fr.st.sub) sr r
    | ok ss S2 =>
      simp only [bnd_ok, hb] at q
      intro vs H2 L2 io2 s2 sr2 r2
      refine q _ H2 L2 io2 (s1.trans s2 fr.st.sub) sr2 (.own hp (s2.up p lp) (fun z => ?_) (ob.mono (fun u e => s2.keep p u e np) fun v d r => r.step s2 fr1.st.sub) (by rw [hu]; exact fun z => nomatch z) (fun q h => back_none s1 sr1 h) r2)
      rcases s2.hn p z with h | h
      · exact np h
      · rw [hu] at h; cases h
/-- the slots are set, from the left -/
def setSs : List Nat → List Sl → Env → Env
  | i :: is, s :: ss, e => setSs is ss (e.set i s)
  | _, _, e => e
def setVs : List Nat → List V → St → St
  | i :: is, v :: vs, g => setVs is vs (g.set i (some v))
  | _, _, g => g
theorem FR.setB {K : PySem.W.Frag} {L0 L : Addr → Prop} {io0 io : List Addr} {H0 H : Hp} {S : Sto} : ∀ {vs : List V} {ss : List Sl} {Hs : Hp} (is : List Nat) {g : St} {e : Env}, FR K L0 io0 H0 L io H g e S → SlsR K L io H Hs vs ss → (∀ q, Hs q = none → H0 q = none) →
    (∀ (j : Nat) (q : Addr), (∀ d : Dv, e[j]? ≠ some (.va d)) → e[j]? ≠ some .no → e[j]? ≠ none → g[j]? = some (some (.ref q)) → Hs q ≠ none) → FR K L0 io0 H0 L io H (setVs is vs g) (setSs is ss e) S
  | _, _, _, [], _, _, fr, _, _, _ => by unfold setVs setSs; exact fr
  | _, _, _, i :: is, _, _, fr, .nil, _, _ => fr
  | _, _, Hs, i :: is, g, e, fr, .va (v := v) (d := d) r t, h0, hn => by
    refine FR.setB is (fr.setV i r) t h0 fun j q v1 v2 v3 hg => ?_
    by_cases hj : j = i
    · subst hj
      by_cases hl : j < e.length
      · exact absurd (set_at hl) (v1 d)
      · exact absurd (List.getElem?_eq_none_iff.mpr (by rw [List.length_set]; omega)) v3
    · rw [set_ne hj] at v1 v2 v3 hg
      exact hn j q v1 v2 v3 hg
  | _, _, Hs, i :: is, g, e, fr, .own (p := p) (o := o) (H1 := H1) h1 h2 h3 h4 h5 h6 t, h0, hn => by
    have fr2 : FR K L0 io0 H0 L io H (g.set i (some (.ref p))) (e.set i (.own o)) S := by
      refine fr.setS i (fun d h => by cases h) (fun l' h => ?_) fun q _ _ hq j hj v1 v2 hg => ?_
      · cases h; exact ⟨p, rfl, h2, h3, h0 p h1, h4⟩
      · cases hq
        by_cases hz : e[j]? = none
        · have := List.getElem?_eq_none_iff.mp hz
          rw [← fr.len] at this
          rw [List.getElem?_eq_none_iff.mpr this] at hg
          cases hg
        · exact hn j p v1 v2 hz hg h1
    refine FR.setB is fr2 t (fun q z => h0 q (h6 q z)) fun j q v1 v2 v3 hg => ?_
    by_cases hj : j = i
    · subst hj
      by_cases hl : j < g.length
      · rw [set_at hl] at hg
        cases hg
        exact h5
      · rw [List.getElem?_eq_none_iff.mpr (by rw [List.length_set]; omega)] at hg
        cases hg
    · rw [set_ne hj] at v1 v2 v3 hg
      exact fun z => hn j q v1 v2 v3 hg (h6 q z)
def sParB (is : List Nat) (fb : DB) : DS := sBind fb fun e ss S => if ss.length = is.length then .nx (setSs is ss e) S else .no
theorem SlsR.len {K : PySem.W.Frag} {L : Addr → Prop} {io : List Addr} {H : Hp} : ∀ {Hs : Hp} {vs : List V} {ss : List Sl}, SlsR K L io H Hs vs ss → vs.length = ss.length
  | _, _, _, .nil => rfl
  | _, _, _, .va _ t => by rw [List.length_cons, List.length_cons, t.len]
  | _, _, _, .own _ _ _ _ _ _ t => by rw [List.length_cons, List.length_cons, t.len]
theorem rd_parB {is : List Nat} {fb : DB} {K : PySem.W.Frag} {D : Ends} {g : St} {H : Hp} (h : rds K W (sParB is fb) D g H) : rdB K W fb g H fun vs H1 => vs.length = is.length ∧ D.nx (setVs is vs g) H1 := by
  obtain ⟨L0, io0, H0, L, io, e, S, fr, h⟩ := h
  refine ⟨L0, io0, H0, L, io, e, S, fr, ?_⟩
  unfold sParB sBind at h
  cases hf : fb e S with
  | no => rw [hf] at h; exact h
  | ex c fs S1 => rw [hf] at h; exact fun x H' L' io' s sr r => h x g H' L' io' (s.stw fr.st.sub) (fr.step s sr) r
  | ok ss S1 =>
    rw [hf] at h
    intro vs H1 L1 io1 s1 sr1 r1
    simp only at h
    split at h
    · rename_i hl
      refine ⟨by rw [r1.len, hl], h _ H1 L1 io1 (s1.stw fr.st.sub) (FR.setB is (fr.step s1 sr1) r1 (fun q z => fr.fresh0 z) fun j q v1 v2 v3 hg => ?_)⟩
      obtain ⟨o, ho, _⟩ := fr.ownAt v1 v2 v3 hg
      rw [ho]; exact fun z => nomatch z
    · exact h.elim
theorem qs_parB {px py pt : Pos} {kt k2 pt2} {fb : DB} (hc : X.calm = true) (hN : X.N.Nodup) (i j : Nat) (ha : QB X W [a, b] fb) (hi : X.N[i]? = some x := by rfl) (hj : X.N[j]? = some y := by rfl) (hij : i ≠ j := by decide)
    (hx : X.env.scope.names.lookup x = some .local := by rfl) (hy : X.env.scope.names.lookup y = some .local := by rfl)
    (hw : swappedStores [.Tuple [.Name x px, .Name y py] kt pt] (.Tuple [a, b] k2 pt2) X.env = pure (some [x, y]) := by rfl)
    (hs : swapsWithSole [.Tuple [.Name x px, .Name y py] kt pt] (.Tuple [a, b] k2 pt2) pos.line X.env = pure false := by rfl) :
    QS X W (.Assign [.Tuple [.Name x px, .Name y py] kt pt] (.Tuple [a, b] k2 pt2) pos) (sParB [i, j] fb) := ps_imp (ps_par hc hN hi hj hij hx hy ha hw hs) fun D g H h => by
  obtain ⟨L0, io0, H0, L, io, e, S, fr, h⟩ := rd_parB h
  refine ⟨L0, io0, H0, L, io, e, S, fr, ?_⟩
  cases hf : fb e S with
  | no => rw [hf] at h; exact h
  | ex c fs S1 => rw [hf] at h; exact h
  | ok ss S1 =>
    rw [hf] at h
    intro vs H1 L1 io1 s1 sr1 r1
    obtain ⟨hl, hd⟩ := h vs H1 L1 io1 s1 sr1 r1
    match vs, hl, hd with
    | [v, w], _, hd => exact ⟨v, w, rfl, hd⟩
def sSetO (i : Nat) (fi fv : DE) : DS := sBind fv fun e v S1 => match e[i]? with
  | some (.own (.lst l)) => sBind fi (fun e n S3 => match n with
    | .int n => match ixN l.length n with
      | some j => .nx (e.set i (.ow (l.set j v))) S3
      | none => .no
    | _ => .no) e S1
  | _ => .no
theorem qs_setO (i : Nat) {ix : Expr} {fi fv : DE} {p1 tpos : Pos} (hi : QE X W ix fi) (hv : QE X W a fv) (hN : X.N[i]? = some x := by rfl) (hvis : Vis X.env.scope x := by first | exact Or.inl rfl | exact Or.inr (Or.inl rfl) | exact Or.inr (Or.inr rfl)) (hd : (x == ("__debug__" : Str)) = false := by decide) (hcd : (x == ("__classdict__" : Str)) = false := by decide)
    (hp : ∀ {to ti tv}, PE X (.Name x p1) to → PE X ix ti → PE X a tv → PS X (.Assign [.Subscript (.Name x p1) ix tpos] a pos) (tAsg tv (gSub to ti rSetL)) := by intro _ _ _ h1 h2 h3; exact ps_asg h3 (pg_sub h1 h2 set_list)) : QS X W (.Assign [.Subscript (.Name x p1) ix tpos] a pos) (sSetO i fi fv) := ps_imp (hp (pe_var (i := i) hN hvis hd hcd) hi hv) fun D g H h => by
  refine rds_bind (R := VR X.K) (k := fun e v S1 => match e[i]? with
    | some (.own (.lst l)) => sBind fi (fun e n S3 => match n with
      | .int n => match ixN l.length n with
        | some j => .nx (e.set i (.ow (l.set j v))) S3
        | none => .no
      | _ => .no) e S1
    | _ => .no) h fun L0 io0 H0 L io H1 e S d v fr rv q => ?_
  cases he : e[i]? with
  | none => rw [he] at q; exact q.elim
  | some sl =>
    rw [he] at q
    cases sl with
    | own o =>
      cases o with
      | lst l =>
        obtain ⟨p, xs, h1, h2, h3, h4, h5, h6⟩ := fr.ow i l he
        refine ⟨.ref p, h1, ?_⟩
        refine outR.bind (R := VR X.K) (k := fun e n S3 => match n with
          | .int n => match ixN l.length n with
            | some j => .nx (e.set i (.ow (l.set j d))) S3
            | none => .no
          | _ => .no) fr q fun L3 io3 H3 S3 id vi s3 fr3 ri q => ?_
        cases ri with
        | int n =>
          simp only at q
          cases hj : ixN l.length n with
          | none => rw [hj] at q; exact q.elim
          | some j =>
            rw [hj] at q
            have np : p ∉ io3 := fun z => by
              rcases s3.hn p z with q | q
              · exact h3 q
              · rw [q] at h5; cases h5
            refine ⟨p, xs, n, j, rfl, rfl, s3.keep p _ h5 h3, by rw [h6.len]; exact hj, ?_⟩
            exact q _ _ L3 io3 (Stw.mut (s3.up p h2)) (fr3.ownL he h1 (s3.up p h2) np h4 (VRs.set (rv.step s3 fr.st.sub) j (h6.step s3 fr.st.sub)))
        | _ => exact q.elim
      | _ => exact q.elim
    | _ => exact q.elim
end
def listK (l : List Dv) (S : Sto) : Res (List Dv) := match l with
  | [d] => match asQ S d with
    | some l => .ok l S
    | none => .no
  | _ => .no
def fList (fa : DA) : DL := fun e S => bnd (fa e S) listK
def eAny (i : Nat) : DE := fun e S => match e[i]? with
  | some (.own o) => .ok (vwO o) S
  | some (.va d) => .ok d S
  | _ => .no
theorem qx_any {X : Cx} {W : WX} {pos : Pos} (i : Nat) {x : Str} (hN : X.N[i]? = some x := by rfl) (hv : Vis X.env.scope x := by first | exact Or.inl rfl | exact Or.inr (Or.inl rfl) | exact Or.inr (Or.inr rfl)) (hd : (x == ("__debug__" : Str)) = false := by decide)
    (hcd : (x == ("__classdict__" : Str)) = false := by decide) : QX X W (.Name x pos) (eAny i) := pe_imp (pe_var hN hv hd hcd) fun g H Q q => by
  obtain ⟨L0, io0, H0, L, io, e, S, fr, q⟩ := q
  cases h : e[i]? with
  | none => simp only [eAny, h] at q; exact q.elim
  | some sl =>
    cases sl with
    | own o =>
      simp only [eAny, h] at q
      obtain ⟨p, h1, h2, h3, h4, h5⟩ := fr.own i o h
      exact ⟨.ref p, h1, q _ H L io (Stp.refl ..) fr.st (.inr ⟨p, o, rfl, rfl, h3, h5⟩)⟩
    | va d =>
      simp only [eAny, h] at q
      obtain ⟨v, h1, h2⟩ := fr.va i d h
      exact ⟨v, h1, q _ H L io (Stp.refl ..) fr.st (.inl h2)⟩
    | no => simp only [eAny, h] at q; exact q.elim
/-- frozen from now on -/
def sFz (i : Nat) : DS := fun e S => match e[i]? with
  | some (.own o) => .nx (e.set i (.va (frzO o))) S
  | some (.va _) => .nx e S
  | _ => .no
theorem qss_fz {X : Cx} {W : WX} {sts : List Stmt} {f : DS} (i : Nat) (h : QSs X W sts f) : QSs X W sts (sSeq (sFz i) f) := pss_imp h fun D g H h => by
  obtain ⟨L0, io0, H0, L, io, e, S, fr, h⟩ := h
  unfold sSeq sFz at h
  cases q : e[i]? with
  | none => rw [q] at h; exact h.elim
  | some s =>
    cases s with
    | own o =>
      rw [q] at h
      obtain ⟨p, _, fr2, w⟩ := fr.frz q
      exact ⟨L0, io0, H0, Lz L p, io, _, S, fr2, outR.later h w⟩
    | va d =>
      rw [q] at h
      exact ⟨L0, io0, H0, L, io, e, S, fr, h⟩
    | no => rw [q] at h; exact h.elim
def tbOf {α : Type} (c : α → DF) : List (Str × α) → Str → Option DF
  | [], _ => none
  | (y, f) :: r, x => if x = y then some (c f) else tbOf c r x
theorem tbOf_ok {α : Type} {c : α → DF} {R : Str → DF → Prop} : ∀ {l : List (Str × α)}, (∀ q ∈ l, R q.1 (c q.2)) → ∀ y g, tbOf c l y = some g → R y g
  | [], _, _, _, e => by cases e
  | (z, f) :: r, h, y, g, e => by
    unfold tbOf at e
    split at e
    · rename_i hy
      cases e
      rw [hy]
      exact h _ (List.mem_cons_self ..)
    · exact tbOf_ok (fun q hq => h q (List.mem_cons_of_mem _ hq)) y g e
end DL
namespace DL
open PySem L2
def prD : Dv → Option (Key × Dv)
  | .tup [k, v] => (keyD k).map fun k' => (k', v)
  | _ => none
def prsD : List Dv → Option (List (Key × Dv))
  | [] => some []
  | d :: l => (prD d).bind fun p => (prsD l).map fun r => p :: r
def dictK (l : List Dv) (S : Sto) : Res (List (Key × Dv)) := match l with
  | [d] => (match asL S d with
    | some m => (match prsD m with
      | some kv => .ok (mergeD [] kv) S
      | none => .no)
    | none => .no)
  | _ => .no
def dDict (fa : DA) : DD := fun e S => bnd (fa e S) dictK
theorem FinD.bind {α β : Type} {K : PySem.W.Frag} {W : WX} {R : (Addr → Prop) → List Addr → Hp → β → α → Prop} {f : Env → Sto → Res α} {k : α → Sto → Res (List (Key × Dv))} {g : St} {L0 L : Addr → Prop} {io0 io : List Addr} {H0 H : Hp} {e : Env} {S : Sto} {Q : V → Hp → Prop} {P : β → Hp → Prop}
    (fr : FR K L0 io0 H0 L io H g e S) (h : FinD K W g L io H Q (bnd (f e S) k))
    (n : ∀ (L1 : Addr → Prop) (io1 : List Addr) (H1 : Hp) (S1 : Sto) (a : α) (v : β), Stp L io H L1 io1 H1 → FR K L0 io0 H0 L1 io1 H1 g e S1 → R L1 io1 H1 v a → FinD K W g L1 io1 H1 Q (k a S1) → P v H1) : Rdg K W R f g H P := by
  refine ⟨L0, io0, H0, L, io, e, S, fr, ?_⟩
  cases hf : f e S with
  | ok a S1 =>
    rw [hf] at h
    intro v H1 L1 io1 s1 sr1 r1
    exact n L1 io1 H1 S1 a v s1 (fr.step s1 sr1) r1 (FinD.later (r := k a S1) h s1 fr.st.sub sr1)
  | ex c fs S1 => rw [hf] at h; exact h
  | no => rw [hf] at h; exact h
def revM (l as : List Dv) : Option (List Dv × Dv) := match as with
  | [] => some (l.reverse, .non)
  | _ => none
theorem owns_rev {K : PySem.W.Frag} : OwnS K rReverse revM := by
  intro L io H S p xs l vs as l' d Q sr hp lp rx ra hh q
  cases ra with
  | nil => cases hh; exact ⟨p, xs, rfl, rfl, hp, q _ _ rx.rev .non⟩
  | cons => cases hh
section
variable {X : Cx} {W : WX} {pos apos cpos p1 : Pos} {o : Expr} {fo : DE} {x name : Str} {id : String} {r : V → List V → Hp → VK → Prop} {h : List Dv → List Dv → Option (List Dv × Dv)}
theorem rd_nil0 {K : PySem.W.Frag} {g : St} {H : Hp} {Q : List V → Hp → Prop} (q : rda K W aNil g H Q) : Q [] H := by
  obtain ⟨L0, io0, H0, L, io, e, S, fr, q⟩ := q
  exact q [] H L io (Stp.refl ..) fr.st .nil
theorem tbm0 {K : PySem.W.Frag} {to : TE} (mono : ∀ g H (Q Q' : VK), (∀ v H, Q v H → Q' v H) → to g H Q → to g H Q') {g : St} {H : Hp} {Q : VK} (q : tBM K "list" r to (rda K W aNil) g H Q) : tBM0 K "list" r to g H Q :=
  mono g H _ _ (fun x H1 ⟨h1, h2⟩ => ⟨h1, rd_nil0 h2⟩) q
theorem mono_var {i : Nat} (g : St) (H : Hp) (Q Q' : VK) (h : ∀ v H, Q v H → Q' v H) (q : tVar i g H Q) : tVar i g H Q' := by
  obtain ⟨v, h1, h2⟩ := q
  exact ⟨v, h1, h _ _ h2⟩
theorem qs_ownM0 (i : Nat) (slot : Slot "list" name id) (hty : typeOf (.builtin id) = pure (.type "method_descriptor")) (hm : MtR X id r) (hs : OwnS X.K r h)
    (hN : X.N[i]? = some x := by rfl) (hv : Vis X.env.scope x := by first | exact Or.inl rfl | exact Or.inr (Or.inl rfl) | exact Or.inr (Or.inr rfl))
    (hd : (x == ("__debug__" : Str)) = false := by decide) (hcd : (x == ("__classdict__" : Str)) = false := by decide)
    (hbase : attributeBase (.Name x p1) name X.env (eval (.Name x p1) X.env) = eval (.Name x p1) X.env := by rfl)
    (hline : (apos.endLine == cpos.line) = true := by rfl) (hsw : swapsWith (.Call (.Attribute (.Name x p1) name apos) [] [] cpos) none pos.line X.env = pure false := by rfl) :
    QS X W (.Expr (.Call (.Attribute (.Name x p1) name apos) [] [] cpos) pos) (sOwnM h i aNil) := ps_imp (ps_expr (pe_bm0 PySem.F.plainAttrs_list slot hty hm (pe_var hN hv hd hcd) hbase hline) hsw) fun D g H q => tbm0 (W := W) mono_var (rd_ownM hs q)
end
end DL
namespace TX
open PySem PySem.Spec PyProof.Rows L2
def keyS (e : Int × Value) : Str := match e.2 with | .str k _ => k | _ => Str.empty
def GoodS (P : Program) (w : World) (e : Int × Value) : Prop := ∃ k tk, e.2 = Value.str k tk ∧ e.1 = (strKind P w).hash k
/-- the set of texts at a: S its members, n their number -/
def TxR (P : Program) (w : World) (h : Heap) (a : Addr) (S : Str → Bool) (n : Nat) : Prop :=
  ∃ o es ep t, h.get? a = some o ∧ o.ExactSet ∧ o.data = .set es ep t ∧ (∀ e ∈ es.toList, GoodS P w e) ∧ (es.toList.map keyS).Nodup ∧ (∀ k, S k = true ↔ k ∈ es.toList.map keyS) ∧
    es.size < scanBound ∧ t.fits es.size = true ∧ es.size = n ∧ Ris t.place.toList ∧ (w.params.followText "set-order" = true ∨ t.led = true)
section
variable {P : Program} {w : World} {h h' : Heap} {a : Addr} {S : Str → Bool} {n : Nat}
theorem TxR.at (R : TxR P w h a S n) (k : ∀ o, h.get? a = some o → h'.get? a = some o) : TxR P w h' a S n := by
  obtain ⟨o, es, ep, t, ho, r⟩ := R
  exact ⟨o, es, ep, t, k o ho, r⟩
theorem TxR.lt (R : TxR P w h a S n) : a < h.objs.size := by
  obtain ⟨o, es, ep, t, ho, r⟩ := R
  exact Heap.lt_size ho
end
end TX
namespace DL
open PySem L2
section
variable {α β : Type} (S S' : Sto) (e : Env) (d d1 d2 d3 : Dv) (l l' : List Dv) (f f1 f2 f3 fo fi fv : DE) (t t1 t2 : DT) (fa : DA) (fl : DL) (s s1 s2 : DS) (h2 : Sto → Dv → Dv → Option (Dv × Sto)) (hc : Sto → List Dv → Option (Dv × Sto)) (g : DF) (i j k : Nat) (b : Bool) (c : Str) (fs : List (Str × Dv)) (x : Option (Dv × Sto))
def kVar (S : Sto) : Option Sl → Res Dv
  | some (.va d) => .ok d S
  | _ => .no
@[simp] theorem ev_var : eVar i e S = kVar S (e[i]?) := rfl
@[simp] theorem kVar_va : kVar S (some (.va d)) = .ok d S := rfl
@[simp] theorem ev_c : eC d e S = .ok d S := rfl
@[simp] theorem ofO_none : (ofO none : Res α) = .no := rfl
@[simp] theorem bnd_no (k : α → Sto → Res β) : bnd .no k = .no := rfl
def kB1 (h : Sto → Dv → Dv → Option (Dv × Sto)) (f2 : DE) (e : Env) (a : Dv) (S : Sto) : Res Dv := bnd (f2 e S) fun b S2 => ofO (h S2 a b)
def kB2 (h : Sto → Dv → Dv → Option (Dv × Sto)) (a b : Dv) (S : Sto) : Res Dv := ofO (h S a b)
@[simp] theorem ev_bin : eBin h2 f1 f2 e S = bnd (f1 e S) (kB1 h2 f2 e) := rfl
@[simp] theorem ev_b1 : kB1 h2 f2 e d S = bnd (f2 e S) (kB2 h2 d) := rfl
@[simp] theorem ev_b2 : kB2 h2 d1 d2 S = ofO (h2 S d1 d2) := rfl
@[simp] theorem ev_tval : tVal f e S = bnd (f e S) blD := rfl
@[simp] theorem blD_bl : blD (.bl b) S = .ok b S := rfl
@[simp] theorem ev_ttru : tTru f e S = bnd (f e S) truR := rfl
def kTru (S : Sto) : Option Bool → Res Bool
  | some b => .ok b S
  | none => .no
@[simp] theorem ev_truR : truR d S = kTru S (truD S d) := by unfold truR; cases truD S d <;> rfl
@[simp] theorem kTru_some : kTru S (some b) = .ok b S := rfl
@[simp] theorem tru_bl : truD S (.bl b) = some b := rfl
@[simp] theorem tru_non : truD S .non = some false := rfl
@[simp] theorem tru_int (n : Int) : truD S (.int n) = some (n != 0) := rfl
@[simp] theorem tru_tup : truD S (.tup l) = some (!l.isEmpty) := rfl
@[simp] theorem tru_lst : truD S (.lst l) = some (!l.isEmpty) := rfl
@[simp] theorem tru_rol : truD S (.rol l) = some (!l.isEmpty) := rfl
def kAnd (t2 : DT) (e : Env) (b : Bool) (S : Sto) : Res Bool := if b then t2 e S else .ok false S
def kOr (t2 : DT) (e : Env) (b : Bool) (S : Sto) : Res Bool := if b then .ok true S else t2 e S
def kNot (b : Bool) (S : Sto) : Res Bool := .ok (!b) S
@[simp] theorem ev_tand : tAnd' t1 t2 e S = bnd (t1 e S) (kAnd t2 e) := rfl
@[simp] theorem ev_tor : tOr' t1 t2 e S = bnd (t1 e S) (kOr t2 e) := rfl
@[simp] theorem ev_tnot : tNot' t1 e S = bnd (t1 e S) kNot := rfl
@[simp] theorem kAnd_t : kAnd t2 e true S = t2 e S := rfl
@[simp] theorem kAnd_f : kAnd t2 e false S = .ok false S := rfl
@[simp] theorem kOr_t : kOr t2 e true S = .ok true S := rfl
@[simp] theorem kOr_f : kOr t2 e false S = t2 e S := rfl
@[simp] theorem kNot_v : kNot b S = .ok (!b) S := rfl
def kIf (f1 f2 : DE) (e : Env) (b : Bool) (S : Sto) : Res Dv := if b then f1 e S else f2 e S
@[simp] theorem ev_if : eIf t f1 f2 e S = bnd (t e S) (kIf f1 f2 e) := rfl
@[simp] theorem kIf_t : kIf f1 f2 e true S = f1 e S := rfl
@[simp] theorem kIf_f : kIf f1 f2 e false S = f2 e S := rfl
def kEAnd (f2 : DE) (e : Env) (a : Dv) (S : Sto) : Res Dv := bnd (truR a S) fun k S2 => if k then f2 e S2 else .ok a S2
def kEOr (f2 : DE) (e : Env) (a : Dv) (S : Sto) : Res Dv := bnd (truR a S) fun k S2 => if k then .ok a S2 else f2 e S2
def kENot (a : Dv) (S : Sto) : Res Dv := bnd (truR a S) fun k S2 => .ok (.bl (!k)) S2
def kEAnd2 (f2 : DE) (e : Env) (a : Dv) (k : Bool) (S : Sto) : Res Dv := if k then f2 e S else .ok a S
def kEOr2 (f2 : DE) (e : Env) (a : Dv) (k : Bool) (S : Sto) : Res Dv := if k then .ok a S else f2 e S
def kENot2 (k : Bool) (S : Sto) : Res Dv := .ok (.bl (!k)) S
@[simp] theorem ev_eand : eAnd f1 f2 e S = bnd (f1 e S) (kEAnd f2 e) := rfl
@[simp] theorem ev_eor : eOr f1 f2 e S = bnd (f1 e S) (kEOr f2 e) := rfl
@[simp] theorem ev_enot : eNot f1 e S = bnd (f1 e S) kENot := rfl
@[simp] theorem ev_keand : kEAnd f2 e d S = bnd (kTru S (truD S d)) (kEAnd2 f2 e d) := by unfold kEAnd; rw [ev_truR]; rfl
@[simp] theorem ev_keor : kEOr f2 e d S = bnd (kTru S (truD S d)) (kEOr2 f2 e d) := by unfold kEOr; rw [ev_truR]; rfl
@[simp] theorem ev_kenot : kENot d S = bnd (kTru S (truD S d)) kENot2 := by unfold kENot; rw [ev_truR]; rfl
@[simp] theorem kEAnd2_t : kEAnd2 f2 e d true S = f2 e S := rfl
@[simp] theorem kEAnd2_f : kEAnd2 f2 e d false S = .ok d S := rfl
@[simp] theorem kEOr2_t : kEOr2 f2 e d true S = .ok d S := rfl
@[simp] theorem kEOr2_f : kEOr2 f2 e d false S = f2 e S := rfl
@[simp] theorem kENot2_v : kENot2 b S = .ok (.bl (!b)) S := rfl
@[simp] theorem ev_anil : aNil e S = .ok [] S := rfl
def kA1 (fa : DA) (e : Env) (d : Dv) (S : Sto) : Res (List Dv) := bnd (fa e S) fun l S2 => .ok (d :: l) S2
def kA2 (d : Dv) (l : List Dv) (S : Sto) : Res (List Dv) := .ok (d :: l) S
@[simp] theorem ev_acons : aCons f fa e S = bnd (f e S) (kA1 fa e) := rfl
@[simp] theorem ev_a1 : kA1 fa e d S = bnd (fa e S) (kA2 d) := rfl
@[simp] theorem ev_a2 : kA2 d l S = .ok (d :: l) S := rfl
@[simp] theorem ev_tup : eTup fa e S = bnd (fa e S) tupR := rfl
@[simp] theorem ev_lst : eLst fa e S = bnd (fa e S) lstR := rfl
theorem line_le (n : Nat) (h : n ≤ 100000) : n ≤ sizeLine := Nat.le_trans h (by decide)
theorem tupR_ok (h : l.length ≤ sizeLine) : tupR l S = .ok (.tup l) S := if_pos h
@[simp] theorem tupR0 : tupR [] S = .ok (.tup []) S := tupR_ok _ _ (line_le _ (by decide))
@[simp] theorem tupR1 (a1 : Dv) : tupR [a1] S = .ok (.tup [a1]) S := tupR_ok _ _ (line_le _ (by simp))
@[simp] theorem tupR2 (a1 a2 : Dv) : tupR [a1, a2] S = .ok (.tup [a1, a2]) S := tupR_ok _ _ (line_le _ (by simp))
@[simp] theorem tupR3 (a1 a2 a3 : Dv) : tupR [a1, a2, a3] S = .ok (.tup [a1, a2, a3]) S := tupR_ok _ _ (line_le _ (by simp))
@[simp] theorem tupR4 (a1 a2 a3 a4 : Dv) : tupR [a1, a2, a3, a4] S = .ok (.tup [a1, a2, a3, a4]) S := tupR_ok _ _ (line_le _ (by simp))
@[simp] theorem tupR5 (a1 a2 a3 a4 a5 : Dv) : tupR [a1, a2, a3, a4, a5] S = .ok (.tup [a1, a2, a3, a4, a5]) S := tupR_ok _ _ (line_le _ (by simp))
@[simp] theorem tupR6 (a1 a2 a3 a4 a5 a6 : Dv) : tupR [a1, a2, a3, a4, a5, a6] S = .ok (.tup [a1, a2, a3, a4, a5, a6]) S := tupR_ok _ _ (line_le _ (by simp))
def kCB (h : Sto → List Dv → Option (Dv × Sto)) (l : List Dv) (S : Sto) : Res Dv := ofO (h S l)
@[simp] theorem ev_cb : eCB hc fa e S = bnd (fa e S) (kCB hc) := rfl
@[simp] theorem ev_kcb : kCB hc l S = ofO (hc S l) := rfl
def kCall (g : DF) (l : List Dv) (S : Sto) : Res Dv := g S l
@[simp] theorem ev_call : eCall g fa e S = bnd (fa e S) (kCall g) := rfl
@[simp] theorem ev_kcall : kCall g l S = g S l := rfl
def kFrz (l : List Dv) (S : Sto) : Res Dv := .ok (.lst l) S
@[simp] theorem ev_frz : eFrz fl e S = bnd (fl e S) kFrz := rfl
@[simp] theorem ev_kfrz : kFrz l S = .ok (.lst l) S := rfl
def kLst (l : List Dv) (S : Sto) : Res (List Dv) := if l.length ≤ sizeLine then .ok l S else .no
@[simp] theorem ev_flst : fLst fa e S = bnd (fa e S) kLst := rfl
theorem kLst_ok (h : l.length ≤ sizeLine) : kLst l S = .ok l S := if_pos h
@[simp] theorem kLst0 : kLst [] S = .ok [] S := kLst_ok _ _ (line_le _ (by decide))
@[simp] theorem kLst1 (a1 : Dv) : kLst [a1] S = .ok [a1] S := kLst_ok _ _ (line_le _ (by simp))
@[simp] theorem kLst2 (a1 a2 : Dv) : kLst [a1, a2] S = .ok [a1, a2] S := kLst_ok _ _ (line_le _ (by simp))
@[simp] theorem kLst3 (a1 a2 a3 : Dv) : kLst [a1, a2, a3] S = .ok [a1, a2, a3] S := kLst_ok _ _ (line_le _ (by simp))
@[simp] theorem kLst4 (a1 a2 a3 a4 : Dv) : kLst [a1, a2, a3, a4] S = .ok [a1, a2, a3, a4] S := kLst_ok _ _ (line_le _ (by simp))
def kNew (l : List Dv) (S : Sto) : Res Dv := .ok (.hdl S.length) (S ++ [.lst l])
@[simp] theorem ev_new : eNew fl e S = bnd (fl e S) kNew := rfl
@[simp] theorem ev_knew : kNew l S = .ok (.hdl S.length) (S ++ [.lst l]) := rfl
@[simp] theorem ev_isq : iSq f e S = bnd (f e S) seqR := rfl
@[simp] theorem seqR_tup : seqR (.tup l) S = .ok l S := rfl
@[simp] theorem seqR_lst : seqR (.lst l) S = .ok l S := rfl
@[simp] theorem seqR_rol : seqR (.rol l) S = .ok l S := rfl
@[simp] theorem ev_rng1 : iRng1' fa e S = bnd (fa e S) rngR1 := rfl
@[simp] theorem ev_rng2 : iRng2' fa e S = bnd (fa e S) rngR2 := rfl
theorem rngR1_ok (n : Int) (h : 0 ≤ n ∧ n < 1000000000) : rngR1 [.int n] S = .ok (rngD 0 n.toNat) S := if_pos ⟨by omega, by omega⟩
/-- comprehensions -/
def kLc (gd : DG) (tt : DT) (te : DE) (vs : List Nat) (e : Env) (ds : List Dv) (S : Sto) : Res (List Dv) := match lcR gd tt te (wipeE e vs) ds S with
  | .ok l S2 => if l.length ≤ sizeLine then .ok l S2 else .no
  | _ => .no
def kLcEnd : Res (List Dv) → Res (List Dv)
  | .ok l S2 => if l.length ≤ sizeLine then .ok l S2 else .no
  | _ => .no
@[simp] theorem ev_fLc (gd : DG) (tt : DT) (te : DE) (vs : List Nat) : fLc fl gd tt te vs e S = bnd (fl e S) (kLc gd tt te vs e) := rfl
@[simp] theorem ev_kLc (gd : DG) (tt : DT) (te : DE) (vs : List Nat) : kLc gd tt te vs e l S = kLcEnd (lcR gd tt te (wipeE e vs) l S) := by unfold kLc kLcEnd; rfl
theorem kLcEnd_ok (h : l.length ≤ sizeLine) : kLcEnd (.ok l S) = .ok l S := if_pos h
@[simp] theorem wipeE_nil : wipeE e [] = e := rfl
@[simp] theorem wipeE_cons (v : Nat) (vs : List Nat) : wipeE e (v :: vs) = (wipeE e vs).set v .no := rfl
@[simp] theorem ev_gN : gN i d e = some (e.set i (.va d)) := rfl
def kGs (gs : DGs) (r : List Dv) : Option Env → Option Env
  | some e => gs r e
  | none => none
@[simp] theorem ev_gT (gs : DGs) : gT gs (.tup l) e = gs l e := rfl
@[simp] theorem ev_gsNil : gsNil [] e = some e := rfl
@[simp] theorem ev_gsCons (gd : DG) (gs : DGs) : gsCons gd gs (d :: l) e = kGs gs l (gd d e) := by show (gd d e).bind (fun e' => gs l e') = _; cases gd d e <;> rfl
@[simp] theorem kGs_some (gs : DGs) : kGs gs l (some e) = gs l e := rfl
/-- statements -/
@[simp] theorem ev_snil : sNil e S = .nx e S := rfl
def kSeq (s2 : DS) : Out → Out
  | .nx e S => s2 e S
  | o => o
@[simp] theorem ev_seq : sSeq s1 s2 e S = kSeq s2 (s1 e S) := by unfold sSeq kSeq; cases s1 e S <;> rfl
@[simp] theorem kSeq_nx : kSeq s2 (.nx e S) = s2 e S := rfl
@[simp] theorem kSeq_rt : kSeq s2 (.rt d S) = .rt d S := rfl
@[simp] theorem kSeq_bk : kSeq s2 (.bk e S) = .bk e S := rfl
@[simp] theorem kSeq_ct : kSeq s2 (.ct e S) = .ct e S := rfl
@[simp] theorem kSeq_ex : kSeq s2 (.ex c fs e S) = .ex c fs e S := rfl
def kS {α : Type} (k : Env → α → Sto → Out) (e : Env) : Res α → Out
  | .ok a S => k e a S
  | .ex c fs S => .ex c fs e S
  | .no => .no
theorem ev_sbind (f : Env → Sto → Res α) (k : Env → α → Sto → Out) : sBind f k e S = kS k e (f e S) := by unfold sBind kS; cases f e S <;> rfl
@[simp] theorem kS_ok (k : Env → α → Sto → Out) (a : α) : kS k e (.ok a S) = k e a S := rfl
@[simp] theorem kS_ex (k : Env → α → Sto → Out) : kS k e (.ex c fs S) = .ex c fs e S := rfl
def qRet (e : Env) (d : Dv) (S : Sto) : Out := .rt d S
@[simp] theorem ev_ret : sRet f e S = kS qRet e (f e S) := ev_sbind ..
@[simp] theorem ev_qret : qRet e d S = .rt d S := rfl
def qExpr (e : Env) (d : Dv) (S : Sto) : Out := .nx e S
@[simp] theorem ev_expr : sExpr f e S = kS qExpr e (f e S) := ev_sbind ..
@[simp] theorem ev_qexpr : qExpr e d S = .nx e S := rfl
def qIf (s1 s2 : DS) (e : Env) (b : Bool) (S : Sto) : Out := if b then s1 e S else s2 e S
@[simp] theorem ev_sif : sIf t s1 s2 e S = kS (qIf s1 s2) e (t e S) := ev_sbind ..
@[simp] theorem qIf_t : qIf s1 s2 e true S = s1 e S := rfl
@[simp] theorem qIf_f : qIf s1 s2 e false S = s2 e S := rfl
def qAsg (i : Nat) (e : Env) (d : Dv) (S : Sto) : Out := .nx (e.set i (.va d)) S
@[simp] theorem ev_asg : sAsg i f e S = kS (qAsg i) e (f e S) := ev_sbind ..
@[simp] theorem ev_qasg : qAsg i e d S = .nx (e.set i (.va d)) S := rfl
def kAsgG (S : Sto) : Option Env → Out
  | some e' => .nx e' S
  | none => .no
def qAsgG (gd : DG) (e : Env) (d : Dv) (S : Sto) : Out := kAsgG S (gd d e)
@[simp] theorem ev_asgG (gd : DG) : sAsgG gd f e S = kS (qAsgG gd) e (f e S) := by
  unfold sAsgG; rw [ev_sbind]; congr 1
@[simp] theorem ev_qasgG (gd : DG) : qAsgG gd e d S = kAsgG S (gd d e) := rfl
@[simp] theorem kAsgG_some : kAsgG S (some e) = .nx e S := rfl
def qPar (i j : Nat) (e : Env) (l : List Dv) (S : Sto) : Out := match l with
  | [d1, d2] => .nx ((e.set i (.va d1)).set j (.va d2)) S
  | _ => .no
@[simp] theorem ev_par : sPar i j fa e S = kS (qPar i j) e (fa e S) := ev_sbind ..
@[simp] theorem ev_qpar : qPar i j e [d1, d2] S = .nx ((e.set i (.va d1)).set j (.va d2)) S := rfl
def qPar3 (i j k : Nat) (e : Env) (l : List Dv) (S : Sto) : Out := match l with
  | [d1, d2, d3] => .nx (((e.set i (.va d1)).set j (.va d2)).set k (.va d3)) S
  | _ => .no
@[simp] theorem ev_par3 : sPar3 i j k fa e S = kS (qPar3 i j k) e (fa e S) := ev_sbind ..
@[simp] theorem ev_qpar3 : qPar3 i j k e [d1, d2, d3] S = .nx (((e.set i (.va d1)).set j (.va d2)).set k (.va d3)) S := rfl
def qOwn (i : Nat) (e : Env) (l : List Dv) (S : Sto) : Out := .nx (e.set i (.ow l)) S
@[simp] theorem ev_own : sOwn i fl e S = kS (qOwn i) e (fl e S) := ev_sbind ..
@[simp] theorem ev_qown : qOwn i e l S = .nx (e.set i (.ow l)) S := rfl
def qNew (i : Nat) (e : Env) (l : List Dv) (S : Sto) : Out := .nx (e.set i (.va (.hdl S.length))) (S ++ [.lst l])
@[simp] theorem ev_snew : sNew i fl e S = kS (qNew i) e (fl e S) := ev_sbind ..
@[simp] theorem ev_qnew : qNew i e l S = .nx (e.set i (.va (.hdl S.length))) (S ++ [.lst l]) := rfl
def kFz (i : Nat) (e : Env) (S : Sto) : Option Sl → Out
  | some (.own o) => .nx (e.set i (.va (frzO o))) S
  | _ => .no
@[simp] theorem ev_sfrz : sFrz i e S = kFz i e S (e[i]?) := by unfold sFrz kFz; cases e[i]? with
  | none => rfl
  | some s => cases s <;> rfl
@[simp] theorem kFz_ow : kFz i e S (some (.ow l)) = .nx (e.set i (.va (.lst l))) S := rfl
@[simp] theorem kFz_od (m : List (Key × Dv)) : kFz i e S (some (.od m)) = .nx (e.set i (.va (.dic m))) S := rfl
@[simp] theorem kFz_oi : kFz i e S (some (.oi c fs)) = .nx (e.set i (.va (.obj c fs))) S := rfl
def qFor (gd : DG) (s : DS) (e : Env) (l : List Dv) (S : Sto) : Out := forR gd s l e S
@[simp] theorem ev_for (gd : DG) : sFor fl gd s e S = kS (qFor gd s) e (fl e S) := ev_sbind ..
@[simp] theorem ev_qfor (gd : DG) : qFor gd s e l S = forR gd s l e S := rfl
def qOwnM (h : List Dv → List Dv → Option (List Dv × Dv)) (i : Nat) (l : List Dv) (e : Env) (as : List Dv) (S : Sto) : Out := match h l as with
  | some (l', _) => .nx (e.set i (.ow l')) S
  | none => .no
def kOwnM (h : List Dv → List Dv → Option (List Dv × Dv)) (i : Nat) (fa : DA) (e : Env) (S : Sto) : Option Sl → Out
  | some (.own (.lst l)) => kS (qOwnM h i l) e (fa e S)
  | _ => .no
@[simp] theorem ev_ownM (h : List Dv → List Dv → Option (List Dv × Dv)) : sOwnM h i fa e S = kOwnM h i fa e S (e[i]?) := by
  unfold sOwnM kOwnM
  rcases e[i]? with _ | (_ | _ | (l | _ | _)) <;> first | rfl | exact ev_sbind ..
@[simp] theorem kOwnM_ow (h : List Dv → List Dv → Option (List Dv × Dv)) : kOwnM h i fa e S (some (.ow l)) = kS (qOwnM h i l) e (fa e S) := rfl
@[simp] theorem qOwnM_app (h : l.length < sizeLine) : qOwnM appD i l e [d] S = .nx (e.set i (.ow (l ++ [d]))) S := by unfold qOwnM appD; simp only [if_pos h]
/-- handles' lists -/
def kSet (e : Env) : Option Sto → Out
  | some S => .nx e S
  | none => .no
def qSet1 (fo fi : DE) (e : Env) (v : Dv) (S : Sto) : Out := sBind fo (fun e o S2 => sBind fi (fun e i S3 => match setD S3 o i v with
  | some S4 => .nx e S4
  | none => .no) e S2) e S
def qSet2 (fi : DE) (v : Dv) (e : Env) (o : Dv) (S : Sto) : Out := sBind fi (fun e i S3 => match setD S3 o i v with
  | some S4 => .nx e S4
  | none => .no) e S
def qSet3 (v o : Dv) (e : Env) (i : Dv) (S : Sto) : Out := kSet e (setD S o i v)
@[simp] theorem ev_setI : sSetI fo fi fv e S = kS (qSet1 fo fi) e (fv e S) := ev_sbind ..
@[simp] theorem ev_qset1 : qSet1 fo fi e d S = kS (qSet2 fi d) e (fo e S) := ev_sbind ..
@[simp] theorem ev_qset2 : qSet2 fi d e d1 S = kS (qSet3 d d1) e (fi e S) := by
  unfold qSet2; rw [ev_sbind]; congr 1
@[simp] theorem ev_qset3 : qSet3 d d1 e d2 S = kSet e (setD S d1 d2 d) := rfl
@[simp] theorem kSet_some : kSet e (some S) = .nx e S := rfl
def kSetH (S : Sto) (k : Nat) (n : Int) (v : Dv) : Option Ob → Option Sto
  | some (.lst l) => match ixN l.length n with
    | some j => some (S.set k (.lst (l.set j v)))
    | none => none
  | _ => none
@[simp] theorem ev_setD (n : Int) : setD S (.hdl k) (.int n) d = kSetH S k n d (S[k]?) := by
  simp only [setD]; unfold kSetH; generalize S[k]? = z; cases z with
  | none => rfl
  | some o => cases o <;> rfl
def kSetJ (S : Sto) (k : Nat) (l : List Dv) (v : Dv) : Option Nat → Option Sto
  | some j => some (S.set k (.lst (l.set j v)))
  | none => none
@[simp] theorem kSetH_lst (n : Int) : kSetH S k n d (some (.lst l)) = kSetJ S k l d (ixN l.length n) := by simp only [kSetH]; generalize ixN l.length n = z; cases z <;> rfl
@[simp] theorem kSetJ_some : kSetJ S k l d (some j) = some (S.set k (.lst (l.set j d))) := rfl
def qAug1 (op : Dv → Dv → Option Dv) (fi fv : DE) (e : Env) (o : Dv) (S : Sto) : Out := sBind fi (fun e i S2 => match ixL S2 o i with
  | some x => sBind fv (fun e y S3 => match op x y with
    | some z => (match setD S3 o i z with
      | some S4 => .nx e S4
      | none => .no)
    | none => .no) e S2
  | none => .no) e S
def kAug2 (op : Dv → Dv → Option Dv) (fv : DE) (o i : Dv) (e : Env) (S : Sto) : Option Dv → Out
  | some x => sBind fv (fun e y S3 => match op x y with
    | some z => (match setD S3 o i z with
      | some S4 => .nx e S4
      | none => .no)
    | none => .no) e S
  | none => .no
def qAug2 (op : Dv → Dv → Option Dv) (fv : DE) (o : Dv) (e : Env) (i : Dv) (S : Sto) : Out := kAug2 op fv o i e S (ixL S o i)
def kAug4 (o i : Dv) (e : Env) (S : Sto) : Option Dv → Out
  | some z => kSet e (setD S o i z)
  | none => .no
def qAug3 (op : Dv → Dv → Option Dv) (o i x : Dv) (e : Env) (y : Dv) (S : Sto) : Out := kAug4 o i e S (op x y)
@[simp] theorem ev_augI (op : Dv → Dv → Option Dv) : sAugI op fo fi fv e S = kS (qAug1 op fi fv) e (fo e S) := ev_sbind ..
@[simp] theorem ev_qaug1 (op : Dv → Dv → Option Dv) : qAug1 op fi fv e d S = kS (qAug2 op fv d) e (fi e S) := by
  unfold qAug1; rw [ev_sbind]; congr 1
@[simp] theorem ev_qaug2 (op : Dv → Dv → Option Dv) : qAug2 op fv d e d1 S = kAug2 op fv d d1 e S (ixL S d d1) := rfl
@[simp] theorem ev_kaug2 (op : Dv → Dv → Option Dv) : kAug2 op fv d d1 e S (some d2) = kS (qAug3 op d d1 d2) e (fv e S) := by
  unfold kAug2
  simp only
  rw [ev_sbind]; congr 1
@[simp] theorem ev_qaug3 (op : Dv → Dv → Option Dv) : qAug3 op d d1 d2 e d3 S = kAug4 d d1 e S (op d2 d3) := rfl
@[simp] theorem kAug4_some : kAug4 d d1 e S (some d2) = kSet e (setD S d d1 d2) := rfl
def kIxL (i : Int) : Option Ob → Option Dv
  | some (.lst l) => atI l i
  | _ => none
@[simp] theorem ixL_hdl (n : Int) : ixL S (.hdl k) (.int n) = kIxL n (S[k]?) := by
  simp only [ixL, asL]; unfold kIxL; generalize S[k]? = z; cases z with
  | none => rfl
  | some o => cases o <;> rfl
@[simp] theorem kIxL_lst (n : Int) : kIxL n (some (.lst l)) = atI l n := rfl
def qAug (op : Dv → Dv → Option Dv) (n : Nat) (x : Dv) (e : Env) (y : Dv) (S : Sto) : Out := match op x y with
  | some z => .nx (e.set n (.va z)) S
  | none => .no
def kAug (op : Dv → Dv → Option Dv) (n : Nat) (fv : DE) (e : Env) (S : Sto) : Option Sl → Out
  | some (.va x) => kS (qAug op n x) e (fv e S)
  | _ => .no
@[simp] theorem ev_aug (op : Dv → Dv → Option Dv) (n : Nat) : sAug op n fv e S = kAug op n fv e S (e[n]?) := by
  unfold sAug kAug
  cases e[n]? with
  | none => rfl
  | some s => cases s <;> first | rfl | exact ev_sbind ..
@[simp] theorem kAug_va (op : Dv → Dv → Option Dv) (n : Nat) : kAug op n fv e S (some (.va d)) = kS (qAug op n d) e (fv e S) := rfl
@[simp] theorem qAug_add (n : Nat) (p q : Int) : qAug addI n (.int p) e (.int q) S = .nx (e.set n (.va (.int (p + q)))) S := rfl
@[simp] theorem qAug_sub (n : Nat) (p q : Int) : qAug subI n (.int p) e (.int q) S = .nx (e.set n (.va (.int (p - q)))) S := rfl
@[simp] theorem addI_int (p q : Int) : addI (.int p) (.int q) = some (.int (p + q)) := rfl
@[simp] theorem subI_int (p q : Int) : subI (.int p) (.int q) = some (.int (p - q)) := rfl
/-- operators by data -/
@[simp] theorem op_sub_i (p q : Int) : pu2 subD S (.int p) (.int q) = some (.int (p - q), S) := rfl
theorem op_mul_i (p q : Int) (h : (-(2 ^ 64) < p ∧ p < 2 ^ 64) ∨ (-(2 ^ 64) < q ∧ q < 2 ^ 64)) : pu2 mulD S (.int p) (.int q) = some (.int (p * q), S) := by
  show (if _ then some (Dv.int (p * q)) else none).map _ = _
  rw [if_pos h]; rfl
theorem op_mod_i (p q : Int) (h : 0 < q) : pu2 modD S (.int p) (.int q) = some (.int (p % q), S) := by
  show (if _ then some (Dv.int (p % q)) else none).map _ = _
  rw [if_pos h]; rfl
theorem op_fdiv_i (p q : Int) (h : 0 < q ∧ q < 1073741824) : pu2 fdivD S (.int p) (.int q) = some (.int (p / q), S) := by
  show (if _ then some (Dv.int (p / q)) else none).map _ = _
  rw [if_pos h]; rfl
@[simp] theorem op_lt_i (p q : Int) : pu2 ltD S (.int p) (.int q) = some (.bl (decide (p < q)), S) := rfl
@[simp] theorem op_le_i (p q : Int) : pu2 leD S (.int p) (.int q) = some (.bl (decide (p ≤ q)), S) := rfl
@[simp] theorem op_gt_i (p q : Int) : pu2 gtD S (.int p) (.int q) = some (.bl (decide (q < p)), S) := rfl
@[simp] theorem op_ge_i (p q : Int) : pu2 geD S (.int p) (.int q) = some (.bl (decide (q ≤ p)), S) := rfl
@[simp] theorem op_add_i (p q : Int) : addD S (.int p) (.int q) = some (.int (p + q), S) := rfl
theorem op_add_s (p q : Str) (h : p.length + q.length ≤ sizeLine) : addD S (.str p) (.str q) = some (.str (p ++ q), S) := if_pos h
theorem op_add_t (h : l.length + l'.length ≤ sizeLine) : addD S (.tup l) (.tup l') = some (.tup (l ++ l'), S) := if_pos h
theorem op_add_l (h : l.length + l'.length ≤ sizeLine) : addD S (.lst l) (.lst l') = some (.lst (l ++ l'), S) := if_pos h
def kEq (S : Sto) : Option Bool → Option (Dv × Sto)
  | some b => some (.bl b, S)
  | none => none
def kNe (S : Sto) : Option Bool → Option (Dv × Sto)
  | some b => some (.bl (!b), S)
  | none => none
@[simp] theorem ev_eqE : eqE S d1 d2 = kEq S (eqD S d1 d2) := by unfold eqE kEq; cases eqD S d1 d2 <;> rfl
@[simp] theorem ev_neE : neE S d1 d2 = kNe S (eqD S d1 d2) := by unfold neE kNe; cases eqD S d1 d2 <;> rfl
@[simp] theorem kEq_some : kEq S (some b) = some (.bl b, S) := rfl
@[simp] theorem kNe_some : kNe S (some b) = some (.bl (!b), S) := rfl
@[simp] theorem eq_ss (p q : Str) : eqD S (.str p) (.str q) = some (decide (p = q)) := rfl
@[simp] theorem eq_ii (p q : Int) : eqD S (.int p) (.int q) = some (decide (p = q)) := rfl
@[simp] theorem eq_bb (p q : Bool) : eqD S (.bl p) (.bl q) = some (decide (p = q)) := rfl
@[simp] theorem eq_nn : eqD S .non .non = some true := rfl
@[simp] theorem eq_ni (p : Int) : eqD S .non (.int p) = some false := rfl
@[simp] theorem eq_in (p : Int) : eqD S (.int p) .non = some false := rfl
@[simp] theorem eq_ns (p : Str) : eqD S .non (.str p) = some false := rfl
@[simp] theorem eq_sn (p : Str) : eqD S (.str p) .non = some false := rfl
@[simp] theorem eq_si (p : Str) (q : Int) : eqD S (.str p) (.int q) = some false := rfl
@[simp] theorem eq_is (p : Str) (q : Int) : eqD S (.int q) (.str p) = some false := rfl
@[simp] theorem is_non : pu2 (isD false) S d .non = some (.bl (match d with | .non => true | _ => false), S) := by cases d <;> rfl
@[simp] theorem isnot_non : pu2 (isD true) S d .non = some (.bl (match d with | .non => false | _ => true), S) := by cases d <;> rfl
@[simp] theorem is_bb (p q : Bool) : pu2 (isD false) S (.bl p) (.bl q) = some (.bl (decide (p = q)), S) := rfl
@[simp] theorem len_tup : lenD S [.tup l] = some (.int l.length, S) := rfl
@[simp] theorem len_lst : lenD S [.lst l] = some (.int l.length, S) := rfl
@[simp] theorem len_rol : lenD S [.rol l] = some (.int l.length, S) := rfl
theorem len_str (z : Str) (h : z.length ≤ sizeLine) : lenD S [.str z] = some (.int z.length, S) := if_pos h
@[simp] theorem abs_int (p : Int) : absD S [.int p] = some (.int (if p < 0 then -p else p), S) := rfl
@[simp] theorem int_int (p : Int) : intD S [.int p] = some (.int p, S) := rfl
@[simp] theorem int_bl : intD S [.bl b] = some (.int (if b then 1 else 0), S) := rfl
@[simp] theorem list_tup : listD S [.tup l] = some (.lst l, S) := rfl
@[simp] theorem list_lst : listD S [.lst l] = some (.lst l, S) := rfl
@[simp] theorem tuple_tup : tupleD S [.tup l] = some (.tup l, S) := rfl
@[simp] theorem tuple_lst : tupleD S [.lst l] = some (.tup l, S) := rfl
def kIx (S : Sto) : Option Dv → Option (Dv × Sto)
  | some d => some (d, S)
  | none => none
@[simp] theorem kIx_some : kIx S (some d) = some (d, S) := rfl
@[simp] theorem ix_tup (n : Int) : ixD S (.tup l) (.int n) = kIx S (atI l n) := by show (atI l n).map _ = _; cases atI l n <;> rfl
@[simp] theorem ix_lst (n : Int) : ixD S (.lst l) (.int n) = kIx S (atI l n) := by show (atI l n).map _ = _; cases atI l n <;> rfl
@[simp] theorem ix_rol (n : Int) : ixD S (.rol l) (.int n) = kIx S (atI l n) := by show (atI l n).map _ = _; cases atI l n <;> rfl
@[simp] theorem ix_hdl (n : Int) : ixD S (.hdl k) (.int n) = kIx S (kIxL n (S[k]?)) := by
  simp only [ixD, asQ, asT, asL]; unfold kIxL; generalize S[k]? = z
  cases z with
  | none => rfl
  | some o => cases o with
    | lst l => simp only [Option.bind_some]; generalize atI l n = q; cases q <;> rfl
    | _ => rfl
@[simp] theorem atI_cons0 {γ : Type} (a : γ) (r : List γ) : atI (a :: r) 0 = some a := by unfold atI ixN; simp
theorem atI_nat' {γ : Type} (r : List γ) (m : Nat) : atI r (m : Int) = r[m]? := by
  unfold atI ixN
  rw [if_pos (by omega)]
  by_cases h : (m : Int) < r.length
  · rw [if_pos h]; simp
  · rw [if_neg h]; simp; omega
@[simp] theorem atI_lit1 {γ : Type} (r : List γ) : atI r 1 = r[1]? := atI_nat' r 1
@[simp] theorem atI_lit2 {γ : Type} (r : List γ) : atI r 2 = r[2]? := atI_nat' r 2
@[simp] theorem atI_lit3 {γ : Type} (r : List γ) : atI r 3 = r[3]? := atI_nat' r 3
@[simp] theorem atI_lit4 {γ : Type} (r : List γ) : atI r 4 = r[4]? := atI_nat' r 4
@[simp] theorem ixN_lit0 (m : Nat) : ixN (m + 1) 0 = some 0 := by unfold ixN; simp
theorem ixN_ok {m : Nat} {n : Int} (h0 : 0 ≤ n) (h1 : n < m) : ixN m n = some n.toNat := by unfold ixN; rw [if_pos h0, if_pos h1]
@[simp] theorem rngD_len (lo : Int) (n : Nat) : (rngD lo n).length = n := by unfold rngD; simp
@[simp] theorem ev_neg : eNeg f e S = bnd (f e S) negD := rfl
@[simp] theorem negD_int (p : Int) : negD (.int p) S = .ok (.int (-p)) S := rfl
/-- a def is run -/
def kRun : Out → Res Dv
  | .rt d S' => .ok d S'
  | .nx _ S' => .ok .non S'
  | .ex c fs _ S' => .ex c fs S'
  | _ => .no
theorem ev_run (np n : Nat) (h : l.length = np) : runF np n s S l = kRun (s (startE n l) S) := by
  unfold runF kRun
  rw [if_pos h]
  try (cases s (startE n l) S <;> rfl)
@[simp] theorem kRun_rt : kRun (.rt d S) = .ok d S := rfl
@[simp] theorem kRun_nx : kRun (.nx e S) = .ok .non S := rfl
@[simp] theorem kRun_ex : kRun (.ex c fs e S) = .ex c fs S := rfl
@[simp] theorem bnd_ex (k : α → Sto → Res β) : bnd (.ex c fs S) k = .ex c fs S := rfl
/-- cuts, parts -/
@[simp] theorem ev_onone : oNone e S = .ok none S := rfl
@[simp] theorem ev_osome : oSome f e S = bnd (f e S) oInt := rfl
@[simp] theorem oInt_int (p : Int) : oInt (.int p) S = .ok (some p) S := rfl
def kCut1 (lo hi : DO) (e : Env) (d : Dv) (S : Sto) : Res Dv := bnd (lo e S) fun l S2 => bnd (hi e S2) fun h S3 => ofO (cutD S3 d l h)
def kCut2 (hi : DO) (e : Env) (d : Dv) (l : Option Int) (S : Sto) : Res Dv := bnd (hi e S) fun h S3 => ofO (cutD S3 d l h)
def kCut3 (d : Dv) (l h : Option Int) (S : Sto) : Res Dv := ofO (cutD S d l h)
@[simp] theorem ev_cut (lo hi : DO) : eCut f lo hi e S = bnd (f e S) (kCut1 lo hi e) := rfl
@[simp] theorem ev_cut1 (lo hi : DO) : kCut1 lo hi e d S = bnd (lo e S) (kCut2 hi e d) := rfl
@[simp] theorem ev_cut2 (hi : DO) (z : Option Int) : kCut2 hi e d z S = bnd (hi e S) (kCut3 d z) := rfl
@[simp] theorem ev_cut3 (y z : Option Int) : kCut3 d y z S = ofO (cutD S d y z) := rfl
@[simp] theorem cut_tup (y z : Option Int) : cutD S (.tup l) y z = some (.tup (cutG l y z), S) := rfl
@[simp] theorem cut_lst (y z : Option Int) : cutD S (.lst l) y z = some (.lst (cutG l y z), S) := rfl
@[simp] theorem cut_rol (y z : Option Int) : cutD S (.rol l) y z = some (.lst (cutG l y z), S) := rfl
/-- texts walked, dicts, texts' methods -/
@[simp] theorem seqR_str (z : Str) : seqR (.str z) S = .ok (strL z) S := rfl
def kFzD (m : List (Key × Dv)) (S : Sto) : Res Dv := .ok (.dic m) S
@[simp] theorem ev_frzD (fd : DD) : eFrzD fd e S = bnd (fd e S) kFzD := rfl
@[simp] theorem ev_kfzD (m : List (Key × Dv)) : kFzD m S = .ok (.dic m) S := rfl
@[simp] theorem ev_dnil : dNil e S = .ok [] S := rfl
@[simp] theorem ev_pnil : pNil e S = .ok [] S := rfl
def kP1 (fv : DE) (fp : DP) (e : Env) (k : Dv) (S : Sto) : Res (List (Dv × Dv)) := bnd (fv e S) fun v S2 => bnd (fp e S2) fun l S3 => .ok ((k, v) :: l) S3
def kP2 (fp : DP) (e : Env) (k v : Dv) (S : Sto) : Res (List (Dv × Dv)) := bnd (fp e S) fun l S3 => .ok ((k, v) :: l) S3
def kP3 (k v : Dv) (m : List (Dv × Dv)) (S : Sto) : Res (List (Dv × Dv)) := .ok ((k, v) :: m) S
@[simp] theorem ev_pcons (fp : DP) : pCons f1 f2 fp e S = bnd (f1 e S) (kP1 f2 fp e) := rfl
@[simp] theorem ev_p1 (fp : DP) : kP1 f2 fp e d S = bnd (f2 e S) (kP2 fp e d) := rfl
@[simp] theorem ev_p2 (fp : DP) : kP2 fp e d1 d2 S = bnd (fp e S) (kP3 d1 d2) := rfl
@[simp] theorem ev_p3 (m : List (Dv × Dv)) : kP3 d1 d2 m S = .ok ((d1, d2) :: m) S := rfl
@[simp] theorem ev_disp (fp : DP) : dDisp fp e S = bnd (fp e S) kDisp := rfl
def kStr2 (h : Sto → Str → List Dv → Option (Dv × Sto)) (z : Str) (l : List Dv) (S : Sto) : Res Dv := ofO (h S z l)
@[simp] theorem ev_strM (h : Sto → Str → List Dv → Option (Dv × Sto)) : eStrM h f fa e S = bnd (f e S) (kStrM h fa e) := rfl
@[simp] theorem ev_kstrM (h : Sto → Str → List Dv → Option (Dv × Sto)) (z : Str) : kStrM h fa e (.str z) S = bnd (fa e S) (kStr2 h z) := rfl
@[simp] theorem ev_kstr2 (h : Sto → Str → List Dv → Option (Dv × Sto)) (z : Str) : kStr2 h z l S = ofO (h S z l) := rfl
def kLenO (S : Sto) : Option Sl → Res Dv
  | some (.own (.lst l)) => .ok (.int l.length) S
  | _ => .no
@[simp] theorem ev_lenO : eLenO i e S = kLenO S (e[i]?) := by unfold eLenO kLenO; rcases e[i]? with _ | (_ | _ | (l | _ | _)) <;> rfl
@[simp] theorem kLenO_ow : kLenO S (some (.ow l)) = .ok (.int l.length) S := rfl
def kHd (i : Nat) (e : Env) (S : Sto) : Option Sl → Out
  | some (.own o) => .nx (e.set i (.va (.hdl S.length))) (S ++ [o])
  | _ => .no
@[simp] theorem ev_shdl : sHdl i e S = kHd i e S (e[i]?) := by unfold sHdl kHd; cases e[i]? with
  | none => rfl
  | some s => cases s <;> rfl
@[simp] theorem kHd_ow (o : Ob) : kHd i e S (some (.own o)) = .nx (e.set i (.va (.hdl S.length))) (S ++ [o]) := rfl
theorem qOwnM_ext (h : l.length + l'.length ≤ sizeLine) : qOwnM extD i l e [.lst l'] S = .nx (e.set i (.ow (l ++ l'))) S := by unfold qOwnM extD; simp only [if_pos h]
def kHM1 (h : List Dv → List Dv → Option (List Dv × Dv)) (fa : DA) (e : Env) (o : Dv) (S : Sto) : Res Dv := if lstHd S o then bnd (fa e S) fun as S2 => hdlM h S2 o as else .no
def kHM2 (h : List Dv → List Dv → Option (List Dv × Dv)) (o : Dv) (as : List Dv) (S : Sto) : Res Dv := hdlM h S o as
def kHM3 (h : List Dv → List Dv → Option (List Dv × Dv)) (fa : DA) (e : Env) (o : Dv) (S : Sto) (b : Bool) : Res Dv := if b then bnd (fa e S) (kHM2 h o) else .no
@[simp] theorem ev_hdlM (h : List Dv → List Dv → Option (List Dv × Dv)) : eHdlM h f fa e S = bnd (f e S) (kHM1 h fa e) := rfl
@[simp] theorem ev_khm1 (h : List Dv → List Dv → Option (List Dv × Dv)) : kHM1 h fa e d S = kHM3 h fa e d S (lstHd S d) := rfl
@[simp] theorem ev_khm3 (h : List Dv → List Dv → Option (List Dv × Dv)) : kHM3 h fa e d S true = bnd (fa e S) (kHM2 h d) := rfl
@[simp] theorem ev_khm2 (h : List Dv → List Dv → Option (List Dv × Dv)) : kHM2 h d l S = hdlM h S d l := rfl
def kLh : Option Ob → Bool
  | some (.lst _) => true
  | _ => false
@[simp] theorem lstHd_hdl : lstHd S (.hdl k) = kLh (S[k]?) := by simp only [lstHd]; unfold kLh; generalize S[k]? = z; cases z with
  | none => rfl
  | some o => cases o <;> rfl
@[simp] theorem kLh_lst : kLh (some (.lst l)) = true := rfl
theorem hdlM_app (h1 : S[k]? = some (.lst l)) (h2 : l.length < sizeLine) : hdlM appD S (.hdl k) [d] = .ok .non (S.set k (.lst (l ++ [d]))) := by simp only [hdlM, h1, appD, if_pos h2]
end
section
variable {α β : Type} (S S' : Sto) (e : Env) (d d1 d2 d3 : Dv) (l l' : List Dv) (f f1 f2 f3 fo fi fv : DE) (t t1 t2 : DT) (fa : DA) (fl : DL) (fn : DN) (fdd : DD) (fb : DB) (s s1 s2 : DS) (o : Ob) (ss : List Sl) (i j k : Nat) (b : Bool) (c : Str) (fs : List (Str × Dv)) (m : List (Key × Dv))
/-- what may be own -/
def kAny (S : Sto) : Option Sl → Res Dv
  | some (.own o) => .ok (vwO o) S
  | some (.va d) => .ok d S
  | _ => .no
@[simp] theorem ev_any : eAny i e S = kAny S (e[i]?) := by unfold eAny kAny; rfl
@[simp] theorem kAny_va : kAny S (some (.va d)) = .ok d S := rfl
@[simp] theorem kAny_ow : kAny S (some (.ow l)) = .ok (.lst l) S := rfl
@[simp] theorem kAny_od : kAny S (some (.od m)) = .ok (.dic m) S := rfl
def kFy (i : Nat) (e : Env) (S : Sto) : Option Sl → Out
  | some (.own o) => .nx (e.set i (.va (frzO o))) S
  | some (.va _) => .nx e S
  | _ => .no
@[simp] theorem ev_sfz : sFz i e S = kFy i e S (e[i]?) := by unfold sFz kFy; rfl
@[simp] theorem kFy_va : kFy i e S (some (.va d)) = .nx e S := rfl
@[simp] theorem kFy_ow : kFy i e S (some (.ow l)) = .nx (e.set i (.va (.lst l))) S := rfl
@[simp] theorem kFy_od : kFy i e S (some (.od m)) = .nx (e.set i (.va (.dic m))) S := rfl
/-- new things -/
def kNL (l : List Dv) (S : Sto) : Res Ob := .ok (.lst l) S
@[simp] theorem ev_nL : nL fl e S = bnd (fl e S) kNL := rfl
@[simp] theorem ev_kNL : kNL l S = .ok (.lst l) S := rfl
def kND (l : List (Key × Dv)) (S : Sto) : Res Ob := .ok (.dct l) S
@[simp] theorem ev_nD : nD fdd e S = bnd (fdd e S) kND := rfl
@[simp] theorem ev_kND : kND m S = .ok (.dct m) S := rfl
def kFN (o : Ob) (S : Sto) : Res Dv := .ok (frzO o) S
@[simp] theorem ev_frzN : eFrzN fn e S = bnd (fn e S) kFN := rfl
@[simp] theorem ev_kFN : kFN o S = .ok (frzO o) S := rfl
@[simp] theorem frzO_l : frzO (.lst l) = .lst l := rfl
@[simp] theorem frzO_d : frzO (.dct m) = .dic m := rfl
@[simp] theorem frzO_i : frzO (.ins c fs) = .obj c fs := rfl
def kHN (o : Ob) (S : Sto) : Res Dv := .ok (.hdl S.length) (S ++ [o])
@[simp] theorem ev_hdlN : eHdlN fn e S = bnd (fn e S) kHN := rfl
@[simp] theorem ev_kHN : kHN o S = .ok (.hdl S.length) (S ++ [o]) := rfl
def qOwnN (i : Nat) (e : Env) (o : Ob) (S : Sto) : Out := .nx (e.set i (.own o)) S
@[simp] theorem ev_ownN : sOwnN i fn e S = kS (qOwnN i) e (fn e S) := ev_sbind ..
@[simp] theorem ev_qownN : qOwnN i e o S = .nx (e.set i (.own o)) S := rfl
@[simp] theorem ev_bnil : bNil e S = .ok [] S := rfl
def kB1' (fb : DB) (e : Env) (d : Dv) (S : Sto) : Res (List Sl) := bnd (fb e S) fun l S2 => .ok (.va d :: l) S2
def kB2' (d : Dv) (l : List Sl) (S : Sto) : Res (List Sl) := .ok (.va d :: l) S
def kB3' (fb : DB) (e : Env) (o : Ob) (S : Sto) : Res (List Sl) := bnd (fb e S) fun l S2 => .ok (.own o :: l) S2
def kB4' (o : Ob) (l : List Sl) (S : Sto) : Res (List Sl) := .ok (.own o :: l) S
@[simp] theorem ev_bva : bVa f fb e S = bnd (f e S) (kB1' fb e) := rfl
@[simp] theorem ev_bown : bOwn fn fb e S = bnd (fn e S) (kB3' fb e) := rfl
@[simp] theorem ev_b1' : kB1' fb e d S = bnd (fb e S) (kB2' d) := rfl
@[simp] theorem ev_b2' : kB2' d ss S = .ok (.va d :: ss) S := rfl
@[simp] theorem ev_b3' : kB3' fb e o S = bnd (fb e S) (kB4' o) := rfl
@[simp] theorem ev_b4' : kB4' o ss S = .ok (.own o :: ss) S := rfl
def qParB (is : List Nat) (e : Env) (ss : List Sl) (S : Sto) : Out := if ss.length = is.length then .nx (setSs is ss e) S else .no
@[simp] theorem ev_parB (is : List Nat) : sParB is fb e S = kS (qParB is) e (fb e S) := ev_sbind ..
@[simp] theorem ev_qparB2 (s1 s2 : Sl) : qParB [i, j] e [s1, s2] S = .nx ((e.set i s1).set j s2) S := rfl
@[simp] theorem ev_qparB3 (s1 s2 s3 : Sl) : qParB [i, j, k] e [s1, s2, s3] S = .nx (((e.set i s1).set j s2).set k s3) S := rfl
def qSO3 (i : Nat) (l : List Dv) (v : Dv) (e : Env) (S : Sto) : Option Nat → Out
  | some j => .nx (e.set i (.ow (l.set j v))) S
  | none => .no
def qSO2 (i : Nat) (l : List Dv) (v : Dv) (e : Env) (n : Dv) (S : Sto) : Out := match n with
  | .int n => qSO3 i l v e S (ixN l.length n)
  | _ => .no
def qSO1 (i : Nat) (fi : DE) (v : Dv) (e : Env) (S : Sto) : Option Sl → Out
  | some (.own (.lst l)) => kS (qSO2 i l v) e (fi e S)
  | _ => .no
def qSO (i : Nat) (fi : DE) (e : Env) (v : Dv) (S : Sto) : Out := qSO1 i fi v e S (e[i]?)
@[simp] theorem ev_setO : sSetO i fi fv e S = kS (qSO i fi) e (fv e S) := by
  unfold sSetO
  rw [ev_sbind]
  congr 1
@[simp] theorem ev_qSO : qSO i fi e d S = qSO1 i fi d e S (e[i]?) := rfl
@[simp] theorem ev_qSO1 : qSO1 i fi d e S (some (.ow l)) = kS (qSO2 i l d) e (fi e S) := rfl
@[simp] theorem ev_qSO2 (n : Int) : qSO2 i l d e (.int n) S = qSO3 i l d e S (ixN l.length n) := rfl
@[simp] theorem ev_qSO3 : qSO3 i l d e S (some j) = .nx (e.set i (.ow (l.set j d))) S := rfl
@[simp] theorem ev_fList : fList fa e S = bnd (fa e S) listK := rfl
@[simp] theorem listK_tup : listK [.tup l] S = .ok l S := rfl
@[simp] theorem listK_lst : listK [.lst l] S = .ok l S := rfl
@[simp] theorem listK_rol : listK [.rol l] S = .ok l S := rfl
/-- chains, ranges asked -/
def kC1 (h h' : Sto → Dv → Dv → Option (Dv × Sto)) (f2 f3 : DE) (e : Env) (a : Dv) (S : Sto) : Res Dv := bnd (f2 e S) fun b S2 => bnd (ofO (h S2 a b)) fun z S3 => match z with
  | .bl true => bnd (f3 e S3) fun c S4 => ofO (h' S4 b c)
  | .bl false => .ok (.bl false) S3
  | _ => .no
def kC3 (h' : Sto → Dv → Dv → Option (Dv × Sto)) (f3 : DE) (e : Env) (b : Dv) (z : Dv) (S : Sto) : Res Dv := match z with
  | .bl true => bnd (f3 e S) (kB2 h' b)
  | .bl false => .ok (.bl false) S
  | _ => .no
def kC2 (h h' : Sto → Dv → Dv → Option (Dv × Sto)) (f3 : DE) (e : Env) (a b : Dv) (S : Sto) : Res Dv := bnd (ofO (h S a b)) (kC3 h' f3 e b)
@[simp] theorem ev_chn (h h' : Sto → Dv → Dv → Option (Dv × Sto)) : eChn h h' f1 f2 f3 e S = bnd (f1 e S) (kC1 h h' f2 f3 e) := rfl
@[simp] theorem ev_c1 (h h' : Sto → Dv → Dv → Option (Dv × Sto)) : kC1 h h' f2 f3 e d S = bnd (f2 e S) (kC2 h h' f3 e d) := by
  unfold kC1
  congr 1
@[simp] theorem ev_c2 (h h' : Sto → Dv → Dv → Option (Dv × Sto)) : kC2 h h' f3 e d1 d2 S = bnd (ofO (h S d1 d2)) (kC3 h' f3 e d2) := rfl
@[simp] theorem ev_c3t (h' : Sto → Dv → Dv → Option (Dv × Sto)) : kC3 h' f3 e d (.bl true) S = bnd (f3 e S) (kB2 h' d) := rfl
@[simp] theorem ev_c3f (h' : Sto → Dv → Dv → Option (Dv × Sto)) : kC3 h' f3 e d (.bl false) S = .ok (.bl false) S := rfl
def kR1 (neg : Bool) (fa : DA) (e : Env) (a : Dv) (S : Sto) : Res Dv := bnd (fa e S) fun l S2 => rngK neg a l S2
@[simp] theorem ev_rngIn : eRngIn b f1 fa e S = bnd (f1 e S) (kR1 b fa e) := rfl
@[simp] theorem ev_kR1 : kR1 b fa e d S = bnd (fa e S) (rngK b d) := rfl
@[simp] theorem rngK_f (p lo hi : Int) : rngK false (.int p) [.int lo, .int hi] S = .ok (.bl (decide (lo ≤ p ∧ p < hi))) S := rfl
@[simp] theorem rngK_t (p lo hi : Int) : rngK true (.int p) [.int lo, .int hi] S = .ok (.bl (!decide (lo ≤ p ∧ p < hi))) S := rfl
/-- a name that stands for a def -/
def kCL (t : Str → Option DF) (fa : DA) (e : Env) (S : Sto) : Option Sl → Res Dv
  | some (.va (.glo x)) => match t x with
    | some g => bnd (fa e S) (kCall g)
    | none => .no
  | _ => .no
@[simp] theorem ev_callL (t : Str → Option DF) : eCallL t i fa e S = kCL t fa e S (e[i]?) := by unfold eCallL kCL; rfl
theorem kCL_glo (t : Str → Option DF) {x : Str} {g : DF} (h : t x = some g) : kCL t fa e S (some (.va (.glo x))) = bnd (fa e S) (kCall g) := by unfold kCL; simp only [h]
end
end DL
namespace DL
open PySem L2
section
variable (S : Sto) (b : Bool) (p : Int) (x : Str) (l : List Dv) (m : List (Key × Dv)) (k : Nat)
theorem kit_NoneType_str : kitB "NoneType" "str" = some false := by decide +kernel
theorem kit_NoneType_int : kitB "NoneType" "int" = some false := by decide +kernel
theorem kit_NoneType_bool : kitB "NoneType" "bool" = some false := by decide +kernel
theorem kit_NoneType_tuple : kitB "NoneType" "tuple" = some false := by decide +kernel
theorem kit_NoneType_list : kitB "NoneType" "list" = some false := by decide +kernel
theorem kit_NoneType_dict : kitB "NoneType" "dict" = some false := by decide +kernel
theorem kit_bool_str : kitB "bool" "str" = some false := by decide +kernel
theorem kit_bool_int : kitB "bool" "int" = some true := by decide +kernel
theorem kit_bool_bool : kitB "bool" "bool" = some true := by decide +kernel
theorem kit_bool_tuple : kitB "bool" "tuple" = some false := by decide +kernel
theorem kit_bool_list : kitB "bool" "list" = some false := by decide +kernel
theorem kit_bool_dict : kitB "bool" "dict" = some false := by decide +kernel
theorem kit_int_str : kitB "int" "str" = some false := by decide +kernel
theorem kit_int_int : kitB "int" "int" = some true := by decide +kernel
theorem kit_int_bool : kitB "int" "bool" = some false := by decide +kernel
theorem kit_int_tuple : kitB "int" "tuple" = some false := by decide +kernel
theorem kit_int_list : kitB "int" "list" = some false := by decide +kernel
theorem kit_int_dict : kitB "int" "dict" = some false := by decide +kernel
theorem kit_str_str : kitB "str" "str" = some true := by decide +kernel
theorem kit_str_int : kitB "str" "int" = some false := by decide +kernel
theorem kit_str_bool : kitB "str" "bool" = some false := by decide +kernel
theorem kit_str_tuple : kitB "str" "tuple" = some false := by decide +kernel
theorem kit_str_list : kitB "str" "list" = some false := by decide +kernel
theorem kit_str_dict : kitB "str" "dict" = some false := by decide +kernel
theorem kit_tuple_str : kitB "tuple" "str" = some false := by decide +kernel
theorem kit_tuple_int : kitB "tuple" "int" = some false := by decide +kernel
theorem kit_tuple_bool : kitB "tuple" "bool" = some false := by decide +kernel
theorem kit_tuple_tuple : kitB "tuple" "tuple" = some true := by decide +kernel
theorem kit_tuple_list : kitB "tuple" "list" = some false := by decide +kernel
theorem kit_tuple_dict : kitB "tuple" "dict" = some false := by decide +kernel
theorem kit_list_str : kitB "list" "str" = some false := by decide +kernel
theorem kit_list_int : kitB "list" "int" = some false := by decide +kernel
theorem kit_list_bool : kitB "list" "bool" = some false := by decide +kernel
theorem kit_list_tuple : kitB "list" "tuple" = some false := by decide +kernel
theorem kit_list_list : kitB "list" "list" = some true := by decide +kernel
theorem kit_list_dict : kitB "list" "dict" = some false := by decide +kernel
theorem kit_dict_str : kitB "dict" "str" = some false := by decide +kernel
theorem kit_dict_int : kitB "dict" "int" = some false := by decide +kernel
theorem kit_dict_bool : kitB "dict" "bool" = some false := by decide +kernel
theorem kit_dict_tuple : kitB "dict" "tuple" = some false := by decide +kernel
theorem kit_dict_list : kitB "dict" "list" = some false := by decide +kernel
theorem kit_dict_dict : kitB "dict" "dict" = some true := by decide +kernel
@[simp] theorem isi_non_str : isiD S [.non, .ty "str"] = some (.bl false, S) := by simp only [isiD, tyD, Option.bind_some, kit_NoneType_str, Option.map_some]
@[simp] theorem isi_non_int : isiD S [.non, .ty "int"] = some (.bl false, S) := by simp only [isiD, tyD, Option.bind_some, kit_NoneType_int, Option.map_some]
@[simp] theorem isi_non_bool : isiD S [.non, .ty "bool"] = some (.bl false, S) := by simp only [isiD, tyD, Option.bind_some, kit_NoneType_bool, Option.map_some]
@[simp] theorem isi_non_tuple : isiD S [.non, .ty "tuple"] = some (.bl false, S) := by simp only [isiD, tyD, Option.bind_some, kit_NoneType_tuple, Option.map_some]
@[simp] theorem isi_non_list : isiD S [.non, .ty "list"] = some (.bl false, S) := by simp only [isiD, tyD, Option.bind_some, kit_NoneType_list, Option.map_some]
@[simp] theorem isi_non_dict : isiD S [.non, .ty "dict"] = some (.bl false, S) := by simp only [isiD, tyD, Option.bind_some, kit_NoneType_dict, Option.map_some]
@[simp] theorem isi_non_tl : isiD S [.non, .tup [.ty "tuple", .ty "list"]] = some (.bl false, S) := by simp [isiD, tyD, kitD, tysOf, kitS, kit_NoneType_tuple, kit_NoneType_list]
@[simp] theorem isi_bl_str : isiD S [(.bl b), .ty "str"] = some (.bl false, S) := by simp only [isiD, tyD, Option.bind_some, kit_bool_str, Option.map_some]
@[simp] theorem isi_bl_int : isiD S [(.bl b), .ty "int"] = some (.bl true, S) := by simp only [isiD, tyD, Option.bind_some, kit_bool_int, Option.map_some]
@[simp] theorem isi_bl_bool : isiD S [(.bl b), .ty "bool"] = some (.bl true, S) := by simp only [isiD, tyD, Option.bind_some, kit_bool_bool, Option.map_some]
@[simp] theorem isi_bl_tuple : isiD S [(.bl b), .ty "tuple"] = some (.bl false, S) := by simp only [isiD, tyD, Option.bind_some, kit_bool_tuple, Option.map_some]
@[simp] theorem isi_bl_list : isiD S [(.bl b), .ty "list"] = some (.bl false, S) := by simp only [isiD, tyD, Option.bind_some, kit_bool_list, Option.map_some]
@[simp] theorem isi_bl_dict : isiD S [(.bl b), .ty "dict"] = some (.bl false, S) := by simp only [isiD, tyD, Option.bind_some, kit_bool_dict, Option.map_some]
@[simp] theorem isi_bl_tl : isiD S [(.bl b), .tup [.ty "tuple", .ty "list"]] = some (.bl false, S) := by simp [isiD, tyD, kitD, tysOf, kitS, kit_bool_tuple, kit_bool_list]
@[simp] theorem isi_int_str : isiD S [(.int p), .ty "str"] = some (.bl false, S) := by simp only [isiD, tyD, Option.bind_some, kit_int_str, Option.map_some]
@[simp] theorem isi_int_int : isiD S [(.int p), .ty "int"] = some (.bl true, S) := by simp only [isiD, tyD, Option.bind_some, kit_int_int, Option.map_some]
@[simp] theorem isi_int_bool : isiD S [(.int p), .ty "bool"] = some (.bl false, S) := by simp only [isiD, tyD, Option.bind_some, kit_int_bool, Option.map_some]
@[simp] theorem isi_int_tuple : isiD S [(.int p), .ty "tuple"] = some (.bl false, S) := by simp only [isiD, tyD, Option.bind_some, kit_int_tuple, Option.map_some]
@[simp] theorem isi_int_list : isiD S [(.int p), .ty "list"] = some (.bl false, S) := by simp only [isiD, tyD, Option.bind_some, kit_int_list, Option.map_some]
@[simp] theorem isi_int_dict : isiD S [(.int p), .ty "dict"] = some (.bl false, S) := by simp only [isiD, tyD, Option.bind_some, kit_int_dict, Option.map_some]
@[simp] theorem isi_int_tl : isiD S [(.int p), .tup [.ty "tuple", .ty "list"]] = some (.bl false, S) := by simp [isiD, tyD, kitD, tysOf, kitS, kit_int_tuple, kit_int_list]
@[simp] theorem isi_str_str : isiD S [(.str x), .ty "str"] = some (.bl true, S) := by simp only [isiD, tyD, Option.bind_some, kit_str_str, Option.map_some]
@[simp] theorem isi_str_int : isiD S [(.str x), .ty "int"] = some (.bl false, S) := by simp only [isiD, tyD, Option.bind_some, kit_str_int, Option.map_some]
@[simp] theorem isi_str_bool : isiD S [(.str x), .ty "bool"] = some (.bl false, S) := by simp only [isiD, tyD, Option.bind_some, kit_str_bool, Option.map_some]
@[simp] theorem isi_str_tuple : isiD S [(.str x), .ty "tuple"] = some (.bl false, S) := by simp only [isiD, tyD, Option.bind_some, kit_str_tuple, Option.map_some]
@[simp] theorem isi_str_list : isiD S [(.str x), .ty "list"] = some (.bl false, S) := by simp only [isiD, tyD, Option.bind_some, kit_str_list, Option.map_some]
@[simp] theorem isi_str_dict : isiD S [(.str x), .ty "dict"] = some (.bl false, S) := by simp only [isiD, tyD, Option.bind_some, kit_str_dict, Option.map_some]
@[simp] theorem isi_str_tl : isiD S [(.str x), .tup [.ty "tuple", .ty "list"]] = some (.bl false, S) := by simp [isiD, tyD, kitD, tysOf, kitS, kit_str_tuple, kit_str_list]
@[simp] theorem isi_tup_str : isiD S [(.tup l), .ty "str"] = some (.bl false, S) := by simp only [isiD, tyD, Option.bind_some, kit_tuple_str, Option.map_some]
@[simp] theorem isi_tup_int : isiD S [(.tup l), .ty "int"] = some (.bl false, S) := by simp only [isiD, tyD, Option.bind_some, kit_tuple_int, Option.map_some]
@[simp] theorem isi_tup_bool : isiD S [(.tup l), .ty "bool"] = some (.bl false, S) := by simp only [isiD, tyD, Option.bind_some, kit_tuple_bool, Option.map_some]
@[simp] theorem isi_tup_tuple : isiD S [(.tup l), .ty "tuple"] = some (.bl true, S) := by simp only [isiD, tyD, Option.bind_some, kit_tuple_tuple, Option.map_some]
@[simp] theorem isi_tup_list : isiD S [(.tup l), .ty "list"] = some (.bl false, S) := by simp only [isiD, tyD, Option.bind_some, kit_tuple_list, Option.map_some]
@[simp] theorem isi_tup_dict : isiD S [(.tup l), .ty "dict"] = some (.bl false, S) := by simp only [isiD, tyD, Option.bind_some, kit_tuple_dict, Option.map_some]
@[simp] theorem isi_tup_tl : isiD S [(.tup l), .tup [.ty "tuple", .ty "list"]] = some (.bl true, S) := by simp [isiD, tyD, kitD, tysOf, kitS, kit_tuple_tuple, kit_tuple_list]
@[simp] theorem isi_lst_str : isiD S [(.lst l), .ty "str"] = some (.bl false, S) := by simp only [isiD, tyD, Option.bind_some, kit_list_str, Option.map_some]
@[simp] theorem isi_lst_int : isiD S [(.lst l), .ty "int"] = some (.bl false, S) := by simp only [isiD, tyD, Option.bind_some, kit_list_int, Option.map_some]
@[simp] theorem isi_lst_bool : isiD S [(.lst l), .ty "bool"] = some (.bl false, S) := by simp only [isiD, tyD, Option.bind_some, kit_list_bool, Option.map_some]
@[simp] theorem isi_lst_tuple : isiD S [(.lst l), .ty "tuple"] = some (.bl false, S) := by simp only [isiD, tyD, Option.bind_some, kit_list_tuple, Option.map_some]
@[simp] theorem isi_lst_list : isiD S [(.lst l), .ty "list"] = some (.bl true, S) := by simp only [isiD, tyD, Option.bind_some, kit_list_list, Option.map_some]
@[simp] theorem isi_lst_dict : isiD S [(.lst l), .ty "dict"] = some (.bl false, S) := by simp only [isiD, tyD, Option.bind_some, kit_list_dict, Option.map_some]
@[simp] theorem isi_lst_tl : isiD S [(.lst l), .tup [.ty "tuple", .ty "list"]] = some (.bl true, S) := by simp [isiD, tyD, kitD, tysOf, kitS, kit_list_tuple, kit_list_list]
@[simp] theorem isi_rol_str : isiD S [(.rol l), .ty "str"] = some (.bl false, S) := by simp only [isiD, tyD, Option.bind_some, kit_list_str, Option.map_some]
@[simp] theorem isi_rol_int : isiD S [(.rol l), .ty "int"] = some (.bl false, S) := by simp only [isiD, tyD, Option.bind_some, kit_list_int, Option.map_some]
@[simp] theorem isi_rol_bool : isiD S [(.rol l), .ty "bool"] = some (.bl false, S) := by simp only [isiD, tyD, Option.bind_some, kit_list_bool, Option.map_some]
@[simp] theorem isi_rol_tuple : isiD S [(.rol l), .ty "tuple"] = some (.bl false, S) := by simp only [isiD, tyD, Option.bind_some, kit_list_tuple, Option.map_some]
@[simp] theorem isi_rol_list : isiD S [(.rol l), .ty "list"] = some (.bl true, S) := by simp only [isiD, tyD, Option.bind_some, kit_list_list, Option.map_some]
@[simp] theorem isi_rol_dict : isiD S [(.rol l), .ty "dict"] = some (.bl false, S) := by simp only [isiD, tyD, Option.bind_some, kit_list_dict, Option.map_some]
@[simp] theorem isi_rol_tl : isiD S [(.rol l), .tup [.ty "tuple", .ty "list"]] = some (.bl true, S) := by simp [isiD, tyD, kitD, tysOf, kitS, kit_list_tuple, kit_list_list]
@[simp] theorem isi_dic_str : isiD S [(.dic m), .ty "str"] = some (.bl false, S) := by simp only [isiD, tyD, Option.bind_some, kit_dict_str, Option.map_some]
@[simp] theorem isi_dic_int : isiD S [(.dic m), .ty "int"] = some (.bl false, S) := by simp only [isiD, tyD, Option.bind_some, kit_dict_int, Option.map_some]
@[simp] theorem isi_dic_bool : isiD S [(.dic m), .ty "bool"] = some (.bl false, S) := by simp only [isiD, tyD, Option.bind_some, kit_dict_bool, Option.map_some]
@[simp] theorem isi_dic_tuple : isiD S [(.dic m), .ty "tuple"] = some (.bl false, S) := by simp only [isiD, tyD, Option.bind_some, kit_dict_tuple, Option.map_some]
@[simp] theorem isi_dic_list : isiD S [(.dic m), .ty "list"] = some (.bl false, S) := by simp only [isiD, tyD, Option.bind_some, kit_dict_list, Option.map_some]
@[simp] theorem isi_dic_dict : isiD S [(.dic m), .ty "dict"] = some (.bl true, S) := by simp only [isiD, tyD, Option.bind_some, kit_dict_dict, Option.map_some]
@[simp] theorem isi_dic_tl : isiD S [(.dic m), .tup [.ty "tuple", .ty "list"]] = some (.bl false, S) := by simp [isiD, tyD, kitD, tysOf, kitS, kit_dict_tuple, kit_dict_list]
/-- one sign of a text -/
theorem occ_one (t : Str) (c : Nat) : (!(Builtin.Str.occurrences t ⟨#[c]⟩ 0 t.length 1).isEmpty) = t.cps.toList.contains c := by
  rw [Bool.eq_iff_iff, StrLaws.found_iff, List.contains_iff_mem, List.mem_iff_getElem?]
  exact exists_congr fun i => StrLaws.subAt_one t c i
/-- a sign of a text -/
def hasC (t : Str) (c : Nat) : Bool := t.cps.toList.contains c
def allC (t : Str) (cs : List Nat) : Bool := cs.all (hasC t)
theorem allC_cons (t : Str) (c : Nat) (cs : List Nat) : allC t (c :: cs) = (hasC t c && allC t cs) := rfl
@[simp] theorem ni_one (t : Str) (c : Nat) : inD true S (.str ⟨#[c]⟩) (.str t) = some (.bl (!hasC t c), S) := by
  show some (Dv.bl (!(!(Builtin.Str.occurrences t ⟨#[c]⟩ 0 t.length 1).isEmpty)), S) = _
  rw [occ_one]; rfl
@[simp] theorem in_one (t : Str) (c : Nat) : inD false S (.str ⟨#[c]⟩) (.str t) = some (.bl (hasC t c), S) := by
  show some (Dv.bl (!(Builtin.Str.occurrences t ⟨#[c]⟩ 0 t.length 1).isEmpty), S) = _
  rw [occ_one]; rfl
theorem len_str' (h : x.length ≤ 16777216) : lenD S [.str x] = some (.int x.length, S) := len_str S x (by rw [sizeLine_eq]; exact h)
/-- a turn of a for -/
theorem forR_nx {gd : DG} {body : DS} {d : Dv} {ds : List Dv} {e e1 e2 : Env} {S S1 : Sto} (h1 : gd d e = some e1) (h2 : body e1 S = .nx e2 S1) : forR gd body (d :: ds) e S = forR gd body ds e2 S1 := by simp only [forR, h1, h2]
theorem forR_rt {gd : DG} {body : DS} {d r : Dv} {ds : List Dv} {e e1 : Env} {S S1 : Sto} (h1 : gd d e = some e1) (h2 : body e1 S = .rt r S1) : forR gd body (d :: ds) e S = .rt r S1 := by simp only [forR, h1, h2]
theorem forR_nil {gd : DG} {body : DS} {e : Env} {S : Sto} : forR gd body [] e S = .nx e S := rfl
theorem kLcEnd' (h : l.length ≤ 16777216) : kLcEnd (.ok l S) = .ok l S := kLcEnd_ok S l (by rw [sizeLine_eq]; exact h)
theorem lcR_t {tg : DG} {tt : DT} {te : DE} {e e1 : Env} {d y : Dv} {ds l : List Dv} {S S1 S2 S3 : Sto} (h1 : tg d e = some e1) (h2 : tt e1 S = .ok true S1) (h3 : te e1 S1 = .ok y S2) (h4 : lcR tg tt te e ds S2 = .ok l S3) : lcR tg tt te e (d :: ds) S = .ok (y :: l) S3 := by simp only [lcR, h1, h2, h3, h4, if_true]
end
end DL
namespace TX
open PySem PySem.Spec PyProof.Rows L2
def ltS (a b : Str) : Prop := a.cps.toList < b.cps.toList
instance (a b : Str) : Decidable (ltS a b) := inferInstanceAs (Decidable (a.cps.toList < b.cps.toList))
def insS (x : Str) : List Str → List Str
  | [] => [x]
  | y :: r => if x = y then y :: r else if ltS x y then x :: y :: r else y :: insS x r
def srtS (l : List Str) : List Str := l.foldr insS []
end TX
namespace DL
open PySem L2
def strsD : List Dv → Option (List Str)
  | [] => some []
  | .str x :: l => (strsD l).map (x :: ·)
  | _ :: _ => none
/-- sorted(set(x)), x a list of texts -/
def srtSetK (l : List Dv) (S : Sto) : Res (List Dv) := match l with
  | [d] => match (asL S d).bind strsD with
    | some ws => if ws.length ≤ 4000 then .ok ((TX.srtS ws).map Dv.str) S else .no
    | none => .no
  | _ => .no
def fSrtSet (fa : DA) : DL := fun e S => bnd (fa e S) srtSetK
end DL
namespace DL
open PySem L2
section
variable {K : PySem.W.Frag} {L : Addr → Prop} {io : List Addr} {H : Hp}
theorem VRs.rep {xs : List V} {l : List Dv} (r : VRs K L io H xs l) : ∀ k : Nat, VRs K L io H (List.replicate k xs).flatten (List.replicate k l).flatten
  | 0 => .nil
  | k + 1 => by
    rw [List.replicate_succ, List.replicate_succ, List.flatten_cons, List.flatten_cons]
    exact r.app (VRs.rep r k)
end
/-- sorted(set(x)) as it is run -/
@[simp] theorem ev_srtSet (fa : DA) (e : Env) (S : Sto) : fSrtSet fa e S = bnd (fa e S) srtSetK := rfl
end DL
namespace DL
open PySem L2
section
variable (S S' : Sto) (e : Env) (d d1 d2 d3 : Dv) (l l' : List Dv) (f f1 f2 f3 fo fi fv : DE) (fa : DA) (fl fl1 : DL) (c m x : Str) (g : DF) (k i j : Nat)
@[simp] theorem ev_fld : eFld c x f e S = bnd (f e S) (kFld c x) := rfl
def kFld2 (S : Sto) : Option Dv → Res Dv
  | some x => .ok x S
  | none => .no
@[simp] theorem kFld_obj (fs : List (Str × Dv)) : kFld c x (.obj c fs) S = kFld2 S (fs.lookup x) := by
  simp only [kFld, insOf, if_true]; unfold kFld2; cases fs.lookup x <;> rfl
@[simp] theorem kFld2_some : kFld2 S (some d) = .ok d S := rfl
theorem kFld_hdl {fs : List (Str × Dv)} (h : S[k]? = some (.ins c fs)) : kFld c x (.hdl k) S = kFld2 S (fs.lookup x) := by
  simp only [kFld, insOf, h, if_true]; unfold kFld2; cases fs.lookup x <;> rfl
@[simp] theorem ev_meth (dl : List Dv) : eMeth c m dl g fo fa e S = bnd (fo e S) (kMeth c m dl g fa e) := rfl
def kMe2 (dl : List Dv) (g : DF) (d : Dv) (as : List Dv) (S : Sto) : Res Dv := g S (d :: (as ++ dl))
theorem kMeth_obj (dl : List Dv) (fs : List (Str × Dv)) (h : (fs.lookup m).isNone = true) : kMeth c m dl g fa e (.obj c fs) S = bnd (fa e S) (kMe2 dl g (.obj c fs)) := by
  simp only [kMeth, insOf, h, and_self, if_true]; rfl
@[simp] theorem ev_me2 (dl as : List Dv) : kMe2 dl g d as S = g S (d :: (as ++ dl)) := rfl
def kCm (c : Str) (g : DF) (l : List Dv) (S : Sto) : Res Dv := g S (.glo c :: l)
@[simp] theorem ev_cm : eCm c g fa e S = bnd (fa e S) (kCm c g) := rfl
@[simp] theorem ev_kcm : kCm c g l S = g S (.glo c :: l) := rfl
@[simp] theorem ev_tab (t : List (Str × Dv)) : eTab t f e S = bnd (f e S) (tabD t) := rfl
def kTab2 (S : Sto) : Option Dv → Res Dv
  | some x => .ok x S
  | none => .no
@[simp] theorem tabD_str (t : List (Str × Dv)) (z : Str) : tabD t (.str z) S = kTab2 S (t.lookup z) := by simp only [tabD]; unfold kTab2; cases t.lookup z <;> rfl
@[simp] theorem kTab2_some : kTab2 S (some d) = .ok d S := rfl
@[simp] theorem ev_zip : iZip' fa e S = bnd (fa e S) zipR := rfl
@[simp] theorem ev_enum : iEnum' fa e S = bnd (fa e S) enumR := rfl
@[simp] theorem zipR_tt : zipR [.tup l, .tup l'] S = .ok (zipD l l') S := rfl
@[simp] theorem zipR_tl : zipR [.tup l, .lst l'] S = .ok (zipD l l') S := rfl
@[simp] theorem zipR_lt : zipR [.lst l, .tup l'] S = .ok (zipD l l') S := rfl
@[simp] theorem zipR_ll : zipR [.lst l, .lst l'] S = .ok (zipD l l') S := rfl
@[simp] theorem enumR_t : enumR [.tup l] S = .ok (enumD l) S := rfl
@[simp] theorem enumR_l : enumR [.lst l] S = .ok (enumD l) S := rfl
@[simp] theorem ev_ddict : dDict fa e S = bnd (fa e S) dictK := rfl
@[simp] theorem ev_revT : eRevT f e S = bnd (f e S) revD := rfl
end
end DL
namespace DL
open PySem L2
def wHab (w : World) (row : String) (b : Bool) : World := ⟨w.draws, { w.params with followText := fun r => if r = row then b else w.params.followText r }⟩
theorem wHab_eq (w : World) (row : String) : w = wHab w row (w.params.followText row) := by
  obtain ⟨d, p⟩ := w
  unfold wHab
  have : p.followText = fun r => if r = row then p.followText row else p.followText r := by
    funext r
    by_cases h : r = row
    · rw [if_pos h, h]
    · rw [if_neg h]
  show World.mk d p = World.mk d { p with followText := fun r => if r = row then p.followText row else p.followText r }
  rw [← this]
theorem by_habit {P : World → Prop} (row : String) (w : World) (h : ∀ w b, P (wHab w row b)) : P w := by
  have e := wHab_eq w row
  rw [e]
  exact h _ _
theorem by_habit2 {P : World → Prop} (row : String) (w : World) (h1 : ∀ w, P (wHab w row true)) (h2 : ∀ w, P (wHab w row false)) : P w :=
  by_habit row w fun w b => by cases b <;> first | exact h1 w | exact h2 w
end DL
namespace DL
open PySem L2
theorem deep_same {S : Sto} {a b : Dv} {p : PyData} (ha : toP (res S a) = some p) (hb : toP (res S b) = some p) (hp : SeqAt.shaped p = true) : deepE S a b = some true := by
  unfold deepE
  rw [ha, hb]
  simp only [Option.bind_some, hp, Bool.and_self, if_true]
  rw [PySem.SeqAt.eqv_refl p (SeqAt.canLay_of_shaped hp)]
def Rp (d : Dv) (p : PyData) : Prop := ∀ m S, toP (deref m S d) = some p
def Rps (l : List Dv) (ps : List PyData) : Prop := ∀ m S, toPs (l.map (deref m S)) = some ps
theorem rps_nil : Rps [] [] := fun _ _ => rfl
theorem rps_cons {d : Dv} {l : List Dv} {p : PyData} {ps : List PyData} (h1 : Rp d p) (h2 : Rps l ps) : Rps (d :: l) (p :: ps) := fun m S => by
  rw [List.map_cons]
  unfold toPs
  rw [h1 m S, h2 m S]
  rfl
theorem rp_int (n : Int) : Rp (.int n) (.int n) := fun m S => by cases m <;> rfl
theorem rp_str (x : Str) : Rp (.str x) (.str x) := fun m S => by cases m <;> rfl
theorem map_deref0 (S : Sto) (l : List Dv) : l.map (deref 0 S) = l := by rw [show deref 0 S = id from rfl, List.map_id]
theorem rp_tup {l : List Dv} {ps : List PyData} (h : Rps l ps) : Rp (.tup l) (.tuple ps) := fun m S => by
  cases m with
  | zero => show (toPs l).map PyData.tuple = _; have := h 0 S; rw [map_deref0] at this; rw [this]; rfl
  | succ m => show (toPs (l.map (deref m S))).map PyData.tuple = _; rw [h m S]; rfl
theorem cl_cons (p : PyData) (ps : List PyData) : PyData.canLayAll0 (p :: ps) = (p.canLay0 && PyData.canLayAll0 ps) := by simp [PyData.canLayAll0]
theorem da_cons (p : PyData) (ps : List PyData) : PyData.depthAll (p :: ps) = max p.depth (PyData.depthAll ps) := by simp [PyData.depthAll]
theorem shaped_of {p : PyData} (h1 : p.canLay0 = true) (h2 : p.depth ≤ 64) : SeqAt.shaped p = true := by
  unfold SeqAt.shaped
  rw [h1, decide_eq_true h2]; rfl
/-- plain data of a depth -/
def Pl (n : Nat) (d : Dv) : Prop := ∃ p, Rp d p ∧ p.canLay0 = true ∧ p.depth ≤ n
def Pls (n : Nat) (l : List Dv) : Prop := ∃ ps, Rps l ps ∧ PyData.canLayAll0 ps = true ∧ PyData.depthAll ps ≤ n
theorem pls_of {n : Nat} : ∀ l : List Dv, (∀ d ∈ l, Pl n d) → Pls n l
  | [], _ => ⟨[], rps_nil, rfl, Nat.zero_le _⟩
  | d :: l, h => by
    obtain ⟨p, a1, a2, a3⟩ := h d (List.mem_cons_self ..)
    obtain ⟨ps, h1, h2, h3⟩ := pls_of l fun x hx => h x (List.mem_cons_of_mem _ hx)
    exact ⟨p :: ps, rps_cons a1 h1, by rw [cl_cons, a2, h2]; rfl, by rw [da_cons]; exact Nat.max_le.mpr ⟨a3, h3⟩⟩
theorem pl_int (n : Nat) (i : Int) : Pl n (.int i) := ⟨_, rp_int i, by simp [PyData.canLay0], by simp [PyData.depth]⟩
theorem pl_str {n : Nat} {x : Str} (h : (PyData.str x).canLay0 = true) : Pl n (.str x) := ⟨_, rp_str x, h, by simp [PyData.depth]⟩
theorem pl_tup {n : Nat} {l : List Dv} (h : ∀ d ∈ l, Pl n d) : Pl (n + 1) (.tup l) := by
  obtain ⟨ps, h1, h2, h3⟩ := pls_of l h
  exact ⟨_, rp_tup h1, by simpa [PyData.canLay0] using h2, by simp [PyData.depth]; omega⟩
theorem Pl.deep {d : Dv} (h : Pl 64 d) (S : Sto) : deepE S d d = some true := by
  obtain ⟨p, h1, h2, h3⟩ := h
  exact deep_same (h1 40 S) (h1 40 S) (shaped_of h2 h3)
theorem eq_tup_same {l : List Dv} (S : Sto) (h : Pl 64 (.tup l)) : eqD S (.tup l) (.tup l) = some true := by
  show (if lenNe (asL S (.tup l)) (asL S (.tup l)) then some false else deepE S (.tup l) (.tup l)) = _
  rw [show lenNe (asL S (.tup l)) (asL S (.tup l)) = false from rfl, if_neg Bool.false_ne_true]
  exact h.deep S
end DL
namespace DL
open PySem L2
end DL
namespace DL
open PySem L2
section
variable {K : PySem.W.Frag} {L : Addr → Prop} {io : List Addr} {H : Hp} {S : Sto}
/-- the type of an instance, a handle or one in a slot -/
theorem insOf_ty (s : SR K L io H S) {v : V} {d : Dv} {c : Str} {fs : List (Str × Dv)} (r : VX K L io H v d) (e : insOf S d = some (c, fs)) : ∃ p dx vs, v = .ref p ∧ H p = some (.ins (He.ga K c) dx vs) := by
  rcases r with r | ⟨p, o, rfl, rfl, np, ob⟩
  · obtain ⟨p, dx, vs, h1, h2, _⟩ := insOf_ok s r e
    exact ⟨p, dx, vs, h1, h2⟩
  · cases o with
    | ins c' fs' => cases e; obtain ⟨dx, vs, h1, _⟩ := ob; exact ⟨p, dx, vs, rfl, h1⟩
    | _ => cases e
end
def rgtOk (S : Sto) (c : Str) (b : Dv) : Bool := match insOf S b with
  | some (c', _) => decide (c' = c)
  | none => (tyD S b).isSome
def blR (neg : Bool) : Res Dv → Res Dv
  | .ok (.bl r) S' => .ok (.bl (if neg then !r else r)) S'
  | _ => .no
def kEqO (neg : Bool) (c : Str) (g : DF) (a b : Dv) (S : Sto) : Res Dv := match insOf S a with
  | some (c', _) => if c' = c ∧ rgtOk S c b = true then blR neg (g S [a, b]) else .no
  | none => .no
def eEqO (neg : Bool) (c : Str) (g : DF) (f1 f2 : DE) : DE := fun e S => bnd (f1 e S) fun a S1 => bnd (f2 e S1) fun b S2 => kEqO neg c g a b S2
end DL
namespace DL
open PySem L2
def kLIx (fa : DE) (e : Env) (d : Dv) (S : Sto) : Res Dv := match d with
  | .lst l => bnd (fa e S) (tixE l)
  | _ => .no
def eLIx (f fa : DE) : DE := fun e S => bnd (f e S) (kLIx fa e)
section
variable (S : Sto) (e : Env) (d : Dv) (l l' : List Dv) (f f1 f2 fa : DE) (c : Str) (g : DF) (b neg : Bool)
@[simp] theorem ev_lix : eLIx f fa e S = bnd (f e S) (kLIx fa e) := rfl
@[simp] theorem ev_klix : kLIx fa e (.lst l) S = bnd (fa e S) (tixE l) := rfl
def kEO1 (neg : Bool) (c : Str) (g : DF) (f2 : DE) (e : Env) (a : Dv) (S : Sto) : Res Dv := bnd (f2 e S) fun b S2 => kEqO neg c g a b S2
@[simp] theorem ev_eqO : eEqO neg c g f1 f2 e S = bnd (f1 e S) (kEO1 neg c g f2 e) := rfl
@[simp] theorem ev_kEO1 : kEO1 neg c g f2 e d S = bnd (f2 e S) (kEqO neg c g d) := rfl
@[simp] theorem blR_ok : blR neg (.ok (.bl b) S) = .ok (.bl (if neg then !b else b)) S := rfl
end
end DL
namespace DL
open PySem L2
end DL
namespace DL
open PySem PySem.Spec PyProof.Rows L2
def kRaise (g : DF) (c : Str) (ns : List Str) (e : Env) (l : List Dv) (S : Sto) : Out := match g S l with
  | .ok _ _ => if l.length = ns.length then .ex c (ns.zip l).reverse e S else .no
  | _ => .no
def sRaise (g : DF) (c : Str) (ns : List Str) (fa : DA) : DS := fun e S => match fa e S with
  | .ok l S1 => kRaise g c ns e l S1
  | _ => .no
theorem Paired.snoc {α β : Type} {R : α → β → Prop} {x : α} {y : β} (h : R x y) : ∀ {l : List α} {m : List β}, Paired R l m → Paired R (l ++ [x]) (m ++ [y])
  | _, _, .nil => .cons h .nil
  | _, _, .cons r t => .cons r (Paired.snoc h t)
theorem Paired.rev {α β : Type} {R : α → β → Prop} : ∀ {l : List α} {m : List β}, Paired R l m → Paired R l.reverse m.reverse
  | _, _, .nil => .nil
  | _, _, .cons r t => by
    rw [List.reverse_cons, List.reverse_cons]
    exact Paired.snoc r (Paired.rev t)
end DL
namespace DL
open PySem PySem.Spec PyProof.Rows L2
abbrev HR (α : Type) := Str → List (Str × Dv) → Env → Sto → Res α
theorem ExR.step {K : PySem.W.Frag} {L L' : Addr → Prop} {io io' : List Addr} {H H' : Hp} {x : Option Addr} {fs : List (Str × Dv)} (h : ExR K L io H x fs) (s : Stp L io H L' io' H') (sub : ∀ x ∈ io, L x) : ExR K L' io' H' x fs := by
  obtain ⟨a, vs, h1, h2, h3, h4⟩ := h
  obtain ⟨k1, k2⟩ := (s.on sub).2 a _ h3 h2
  exact ⟨a, vs, h1, k2, k1, h4.mono fun v d r => r.step s sub⟩
def RdH {α β : Type} (K : PySem.W.Frag) (R : (Addr → Prop) → List Addr → Hp → β → α → Prop) (i : Nat) (a : Addr) (cls : Value) (d : Option Addr) (h : HR α) : L2.St → Hp → (β → Hp → Prop) → Prop := fun σ H Q =>
  ∃ (c : Str) (fs : List (Str × Dv)) (L0 : Addr → Prop) (io0 : List Addr) (H0 : Hp) (L : Addr → Prop) (io : List Addr) (e : Env) (S : Sto), cls = .ref (He.ga K c) ∧ FR K L0 io0 H0 L io H σ e S ∧ σ[i]? = some (some (.ref a)) ∧ ExR K L io H d fs ∧ Fin K (fun _ _ _ _ => False) R σ L io H Q (h c fs e S)
theorem RdH.bind {α β α' β' : Type} {K : PySem.W.Frag} {R : (Addr → Prop) → List Addr → Hp → β → α → Prop} {R' : (Addr → Prop) → List Addr → Hp → β' → α' → Prop} {i : Nat} {a : Addr} {cls : Value} {d : Option Addr} {h : HR α} {k : Str → List (Str × Dv) → Env → α → Sto → Res α'} {σ : L2.St} {H : Hp} {Q : β' → Hp → Prop} {P : β → Hp → Prop}
    (q : RdH K R' i a cls d (fun c fs e S => bnd (h c fs e S) (k c fs e)) σ H Q)
    (n : ∀ (c : Str) (fs : List (Str × Dv)) (L0 : Addr → Prop) (io0 : List Addr) (H0 : Hp) (L : Addr → Prop) (io : List Addr) (H1 : Hp) (e : Env) (S : Sto) (x : α) (v : β), cls = .ref (He.ga K c) → FR K L0 io0 H0 L io H1 σ e S → σ[i]? = some (some (.ref a)) → ExR K L io H1 d fs → R L io H1 v x → Fin K (fun _ _ _ _ => False) R' σ L io H1 Q (k c fs e x S) → P v H1) : RdH K R i a cls d h σ H P := by
  obtain ⟨c, fs, L0, io0, H0, L, io, e, S, hc, fr, si, ex, q0⟩ := q
  have q : Fin K (fun _ _ _ _ => False) R' σ L io H Q (bnd (h c fs e S) (k c fs e)) := q0
  refine ⟨c, fs, L0, io0, H0, L, io, e, S, hc, fr, si, ex, ?_⟩
  cases hh : h c fs e S with
  | ok x S1 =>
    rw [hh] at q
    intro v H1 L1 io1 s1 sr1 r1
    exact n c fs L0 io0 H0 L1 io1 H1 e S1 x v hc (fr.step s1 sr1) si (ex.step s1 fr.st.sub) r1 (Fin.later q s1 fr.st.sub)
  | ex c' fs' S1 => rw [hh] at q; exact q
  | no => rw [hh] at q; exact q
section
variable {X : Cx} {i : Nat} {e a b c : Expr} {es : List Expr} {pos : Pos} {h h1 h2 : HR Dv} {ha : HR (List Dv)} {ht : HR Bool}
theorem pairR_look {K : PySem.W.Frag} {L : Addr → Prop} {io : List Addr} {H : Hp} {f : Str} {d : Dv} : ∀ {vs : List (Str × V)} {fs : List (Str × Dv)}, PairR (VR K L io H) vs fs → fs.lookup f = some d → ∃ v, vs.lookup f = some v ∧ VR K L io H v d
  | _, _, .nil, h => by simp at h
  | (n, v) :: vs, (m, d') :: fs, .cons r t, h => by
    have e : n = m := r.1
    subst e
    rw [List.lookup_cons] at h ⊢
    cases hb : f == n with
    | true => rw [hb] at h; cases h; exact ⟨v, rfl, r.2⟩
    | false => rw [hb] at h; exact pairR_look t h
end
end DL
namespace DL
open PySem L2
section
variable (S S' : Sto) (e e' : Env) (d : Dv) (l : List Dv) (c f : Str) (fs : List (Str × Dv)) (ns : List Str) (fa : DA) (g : DF) (i : Nat) (b : Bool) (body : DS) (h : HR Dv) (sub : List (Str × Bool))
def kRs (g : DF) (c : Str) (ns : List Str) (e : Env) : Res (List Dv) → Out
  | .ok l S1 => kRaise g c ns e l S1
  | _ => .no
@[simp] theorem ev_raise : sRaise g c ns fa e S = kRs g c ns e (fa e S) := by unfold sRaise kRs; cases fa e S <;> rfl
@[simp] theorem kRs_ok : kRs g c ns e (.ok l S) = kRaise g c ns e l S := rfl
end
end DL
namespace DL
open PySem L2
def dinD (neg : Bool) (S : Sto) (k d : Dv) : Option (Dv × Sto) := (asD S d).bind fun l => (keyD k).map fun k' => (.bl (if neg then !(valD l k').isSome else (valD l k').isSome), S)
def rDIn (neg : Bool) : R2 := fun y x H Q => ∃ a o, x = .ref a ∧ DGet H a y o ∧ Q (.bl (if neg then !o.isSome else o.isSome)) H
theorem ops_din {K : PySem.W.Frag} {neg : Bool} : OpS K (rDIn neg) (dinD neg) := by
  intro L io H S x y a b d S' Q sr ra rb e q
  unfold dinD at e
  cases h1 : asD S b with
  | none => rw [h1] at e; cases e
  | some l =>
    rw [h1] at e
    simp only [Option.bind_some] at e
    cases h2 : keyD a with
    | none => rw [h2] at e; cases e
    | some k =>
      rw [h2] at e
      cases e
      obtain ⟨p, kvs, rfl, e1, e2⟩ := asD_x sr rb h1
      have hk := keyD_ok (ra.vr (by cases a <;> first | rfl | cases h2)) h2
      have hs : (valV kvs k).isSome = (valD l k).isSome := by
        cases h3 : valD l k with
        | none => rw [(e2.val k).2 h3]; rfl
        | some z => obtain ⟨v, h4, _⟩ := (e2.val k).1 z h3; rw [h4]; rfl
      refine ⟨p, valV kvs k, rfl, by rw [hk]; exact .inl ⟨kvs, k, e1, rfl, rfl⟩, ?_⟩
      rw [hs]
      exact q _ H L io (Stp.refl ..) sr (.bl _)
section
variable {X : Cx} {W : WX} {pos pos' : Pos} {o i a : Expr} {f f1 f2 fv fo fi : DE} {kk : Nat} {x : Str}
theorem qt_dni (hr : Room kk X.A) (hi : QX X W i f1) (ho : QX X W o f2) (hm : behindInMarks .NotIn o = false := by first | exact nobehind _ (by decide) (by decide) | rfl) : QT X W (.Compare i [.NotIn] [o] pos) (tVal (eBin (dinD true) f1 f2)) :=
  pt_imp (pt_cmp (pc_dnotin (hu_of hr) hi ho) hm) fun g H Q q => by
    have z := rd_tval q
    exact (show tTest (tOp (rDIn true) (Rdg X.K W (VX X.K) f1) (Rdg X.K W (VX X.K) f2)) g H Q from rd_bin ops_din z)
/-- d a handle -/
def dputH (S : Sto) (o i v : Dv) : Option Sto := match o with
  | .hdl k => (match S[k]? with
    | some (.dct l) => (keyD i).bind fun k' => if l.length < sizeLine then some (S.set k (.dct (putD l k' v))) else none
    | _ => none)
  | _ => none
def sDPutH (fo fi fv : DE) : DS := sBind fv fun e v S1 => sBind fo (fun e o S2 => sBind fi (fun e i S3 => match dputH S3 o i v with
  | some S4 => .nx e S4
  | none => .no) e S2) e S1
theorem qs_dputH (hr : Room kk X.A) (ho : QE X W o fo) (hi : QE X W i fi) (hv : QE X W a fv) (hs : swapsWith a (some (.Subscript o i pos')) pos.line X.env = pure false := by rfl) : QS X W (.Assign [.Subscript o i pos'] a pos) (sDPutH fo fi fv) := ps_imp (ps_dput (hu_of hr) ho hi hv hs) fun D g H h => by
  refine rds_bind (R := VR X.K) (k := fun e v S1 => sBind fo (fun e o S2 => sBind fi (fun e i S3 => match dputH S3 o i v with
    | some S4 => .nx e S4
    | none => .no) e S2) e S1) h fun L0 io0 H0 L io H1 e S v vv fr rv q => ?_
  refine outR.bind (R := VR X.K) (k := fun e o S2 => sBind fi (fun e i S3 => match dputH S3 o i v with
    | some S4 => .nx e S4
    | none => .no) e S2) fr q fun L2 io2 H2 S2 od ov s2 fr2 ro q2 => ?_
  refine outR.bind (R := VR X.K) (k := fun e i S3 => match dputH S3 od i v with
    | some S4 => .nx e S4
    | none => .no) fr2 q2 fun L3 io3 H3 S3 id iv s3 fr3 ri q3 => ?_
  have ro3 := ro.step s3 fr2.st.sub
  have rv3 := (rv.step s2 fr.st.sub).step s3 fr2.st.sub
  unfold dputH at q3
  cases od with
  | hdl k =>
    cases ro3 with
    | hdl hk =>
      rename_i p
      cases hS : S3[k]? with
      | none => simp only [hS] at q3; exact q3.elim
      | some ob =>
        cases ob with
        | dct l =>
          simp only [hS] at q3
          cases h2 : keyD id with
          | none => rw [h2] at q3; exact q3.elim
          | some k' =>
            rw [h2] at q3
            simp only [Option.bind_some] at q3
            by_cases hl : l.length < sizeLine
            · rw [if_pos hl] at q3
              simp only at q3
              obtain ⟨kvs, e1, r1⟩ := fr3.st.obj k p _ hk hS
              have ma : p ∈ io3 := List.mem_of_getElem? hk
              refine ⟨p, upd H3 p (.dK (putK kvs k' vv)), rfl, ?_, ?_⟩
              · rw [keyD_ok ri h2]
                exact DPut.k e1 (by rw [PairR.len r1]; exact hl)
              · have s4 : Stp L3 io3 H3 L3 io3 (upd H3 p (.dK (putK kvs k' vv))) := Stp.mutH ma
                exact q3 g _ L3 io3 (s4.stw fr3.st.sub) (fr3.step s4 (fr3.st.setH hk ⟨_, upd_same, (PairR.put r1 rv3).mono fun v d r => r.mut (fr3.st.sub p ma)⟩))
            · rw [if_neg hl] at q3; exact q3.elim
        | _ => simp only [hS] at q3; exact q3.elim
  | _ => exact q3.elim
/-- d a slot's own -/
def dputO (j : Nat) (l : List (Key × Dv)) (v : Dv) (e : Env) (i : Dv) (S : Sto) : Out := match keyD i with
  | some k => if l.length < sizeLine then .nx (e.set j (.od (putD l k v))) S else .no
  | none => .no
def sDPutO (j : Nat) (fi fv : DE) : DS := sBind fv fun e v S1 => match e[j]? with
  | some (.own (.dct l)) => sBind fi (dputO j l v) e S1
  | _ => .no
theorem qs_dputO (hr : Room kk X.A) (j : Nat) {p1 : Pos} (hi : QE X W i fi) (hv : QE X W a fv) (hN : X.N[j]? = some x := by rfl) (hvis : Vis X.env.scope x := by first | exact Or.inl rfl | exact Or.inr (Or.inl rfl) | exact Or.inr (Or.inr rfl)) (hd : (x == ("__debug__" : Str)) = false := by decide) (hcd : (x == ("__classdict__" : Str)) = false := by decide)
    (hs : swapsWith a (some (.Subscript (.Name x p1) i pos')) pos.line X.env = pure false := by rfl) : QS X W (.Assign [.Subscript (.Name x p1) i pos'] a pos) (sDPutO j fi fv) := ps_imp (ps_dput (hu_of hr) (pe_var (i := j) hN hvis hd hcd) hi hv hs) fun D g H h => by
  refine rds_bind (R := VR X.K) (k := fun e v S1 => match e[j]? with
    | some (.own (.dct l)) => sBind fi (dputO j l v) e S1
    | _ => .no) h fun L0 io0 H0 L io H1 e S v vv fr rv q => ?_
  cases he : e[j]? with
  | none => rw [he] at q; exact q.elim
  | some sl =>
    rw [he] at q
    cases sl with
    | own ob =>
      cases ob with
      | dct l =>
        obtain ⟨p, kvs, h1, h2, h3, h4, h5, h6⟩ := fr.od j l he
        refine ⟨.ref p, h1, ?_⟩
        refine outR.bind (R := VR X.K) (k := dputO j l v) fr q fun L3 io3 H3 S3 id vi s3 fr3 ri q3 => ?_
        unfold dputO at q3
        cases hk : keyD id with
        | none => rw [hk] at q3; exact q3.elim
        | some k =>
          rw [hk] at q3
          simp only at q3
          by_cases hl : l.length < sizeLine
          · rw [if_pos hl] at q3
            have np : p ∉ io3 := fun z => by
              rcases s3.hn p z with w | w
              · exact h3 w
              · rw [w] at h5; cases h5
            have lp := s3.up p h2
            refine ⟨p, upd H3 p (.dK (putK kvs k vv)), rfl, ?_, ?_⟩
            · rw [keyD_ok ri hk]
              exact DPut.k (s3.keep p _ h5 h3) (by rw [PairR.len h6]; exact hl)
            · exact q3 _ _ L3 io3 (Stw.mut lp) (fr3.ownO he h1 lp np h4 ⟨_, upd_same, (PairR.put (h6.mono fun v d r => r.step s3 fr.st.sub) (rv.step s3 fr.st.sub)).mono fun v d r => r.mut lp⟩)
          · rw [if_neg hl] at q3; exact q3.elim
      | _ => exact q.elim
    | _ => exact q.elim
def dcopK (l : List Dv) (S : Sto) : Res (List (Key × Dv)) := match l with
  | [d] => (match asD S d with
    | some m => .ok m S
    | none => .no)
  | _ => .no
def dCopy (fa : DA) : DD := fun e S => bnd (fa e S) dcopK
theorem qd_copy {p : Pos} {fa : DA} (hm : X.mg "dict" = none) (ha : QXs X W [a] fa) (hg : Gl X "dict" := by rfl) (he : starEach [a] X.env = (false, eval a X.env) :: starEach [] X.env := by rfl) : QD X W (.Call (.Name "dict" p) [a] [] pos) (dCopy fa) :=
  pe_imp (pe_callTy call_dictD hg hm (by decide +kernel) ha (by decide) (by decide) he (by rfl)) fun g H Q q => by
  obtain ⟨L0, io0, H0, L, io, e, S, fr, q⟩ := q
  refine FinD.bind (R := VXs X.K) (k := dcopK) fr q fun L1 io1 H1 S1 l vs s1 fr1 rvs q => ?_
  unfold dcopK at q
  split at q
  · rename_i d
    cases h : asD S1 d with
    | none => rw [h] at q; exact q.elim
    | some m =>
      rw [h] at q
      cases rvs with
      | cons r t =>
        cases t
        obtain ⟨a, kvs, rfl, hs, t⟩ := asD_x fr1.st r h
        refine ⟨a, kvs, rfl, hs, fun p hp => ?_⟩
        exact q _ _ (Ly L1 p) io1 (Stp.newV hp) (fr1.st.newV hp) ⟨p, _, rfl, hp, .inr rfl, fun z => fr1.st.dom p (fr1.st.sub p z) hp, upd_same, t.mono fun v d r => r.step (Stp.newV hp) fr1.st.sub⟩
  · exact q.elim
end
end DL
namespace DL
open PySem PySem.Spec PyProof.Rows L2
section
open PySem.W PySem.Calls
variable {M : Model} {A : Around} {E : Value → Shared → Prop} {s : Shared} {K : PySem.W.Frag} {env : PySem.Env} {pos : Pos} {x C : Addr} {first : List Value} {Q : Value → Shared → Prop}
theorem kco_of {args : List (Bool × Sem Value)} {keywords : List (Option Str × Sem Value)} (hplain : (args.any (·.1) || keywords.any (·.1.isNone)) = false)
    (h : wpAny M A (evalArgs (.ref x) true args keywords) (fun a s₁ => (∃ ox od, ox.data = .plain ∧ InstAt s₁.heap x ox C od) ∧ wpAny M A (call (.ref x) (first ++ a.pos) a.kw) Q E s₁) E s) : wpAny M A (callWith pos (.ref x) first args keywords) Q E s := by
  unfold callWith
  refine wpAny_bind (wpAny_holding (wpAny_mono h (fun a s₁ h₁ => wpAny_bind (wpAny_standAt ?_)) fun _ _ y => y))
  obtain ⟨⟨ox, od, hd, I⟩, hc⟩ := h₁
  have L := kco_keeper (M := M) I hd
  simp only [hplain]
  refine wpAny_bind (L.here ?_)
  have tail : ∀ {t : Sem Value}, wpAny M A t Q E s₁ → wpAny M A (t >>= fun r => holding [r] point >>= fun _ => pure r) Q E s₁ :=
    fun ht => wpAny_bind (wpAny_mono ht (fun r s₂ hr => wpAny_bind (wpAny_holding (wpAny_point (wpAny_pure hr)))) fun _ _ y => y)
  exact tail (wpAny_operateT hc)
theorem kco_cw {e : Expr} {rest : List Expr} (h : wpAny M A (spliced (backTo pos (starEach (e :: rest) env))) (fun vs s₁ => (∃ ox od, ox.data = .plain ∧ InstAt s₁.heap x ox C od) ∧ wpAny M A (call (.ref x) (first ++ vs)) Q E s₁) E s)
    (he : starEach (e :: rest) env = (false, eval e env) :: starEach rest env := by rfl) (hplain : (backTo pos (starEach rest env)).any (·.1) = false := by rfl) :
    wpAny M A (callWith pos (.ref x) first (backTo pos (starEach (e :: rest) env)) []) Q E s := by
  rw [he] at h ⊢
  exact kco_of (by show ((false || (backTo pos (starEach rest env)).any (·.1)) || false) = false; rw [hplain]; rfl) (evalArgs_plain h)
end
def kCallP (c : Str) (g : DF) (d : Dv) (as : List Dv) (S : Sto) : Res Dv := match insOf S d with
  | some (c', _) => if c' = c then g S (d :: as) else .no
  | none => .no
def kCallO (c : Str) (g : DF) (fa : DA) (e : Env) (d : Dv) (S : Sto) : Res Dv := match insOf S d with
  | some (c', _) => if c' = c then bnd (fa e S) (kCallP c g d) else .no
  | none => .no
def eCallO (c : Str) (g : DF) (i : Nat) (fa : DA) : DE := fun e S => bnd (eVar i e S) (kCallO c g fa e)
def fnmB (c m : Str) : Ft := .any fun K => PySem.W.fnIn K (He.ma K (He.ga K c) m)
theorem fnm_f {K : PySem.W.Frag} {c m : Str} (h : (fnmB c m).ok K = true) : PySem.W.fnIn K (He.ma K (He.ga K c) m) = true := h
section
variable {X : Cx} {W : WX} {pos p : Pos} {e : Expr} {es : List Expr} {c x : Str} {fa : DA} {g : DF} {k : Nat}
theorem qe_callO (i : Nat) (F : FM X.prog X.w X.K X.mg X.base k c "__call__" [] g) (hm0 : Meth X.K (He.ga X.K c) "__call__" (He.ma X.K (He.ga X.K c) "__call__")) (hfn : PySem.W.fnIn X.K (He.ma X.K (He.ga X.K c) "__call__") = true) (hr : RoomG (k + 1) X.A) (tk : Takes X W) (ha : QA X W (e :: es) fa)
    (hN : X.N[i]? = some x := by rfl) (hv : Vis X.env.scope x := by first | exact Or.inl rfl | exact Or.inr (Or.inl rfl) | exact Or.inr (Or.inr rfl)) (hdb : (x == ("__debug__" : Str)) = false := by decide) (hcd : (x == ("__classdict__" : Str)) = false := by decide)
    (he : starEach (e :: es) X.env = (false, eval e X.env) :: starEach es X.env := by rfl) (hpl : (backTo pos (starEach es X.env)).any (·.1) = false := by rfl) :
    QE X W (.Call (.Name x p) (e :: es) [] pos) (eCallO c g i fa) := by
  obtain ⟨f, fd, ps, ds, dvs, F, hc, hm, hb, hvd, hd⟩ := F
  have dn : dvs = [] := by
    have := hd (fun _ => False) [] (fun _ => none)
    cases this; rfl
  subst dn
  have ef : f = He.ma X.K (He.ga X.K c) "__call__" := by
    have := hm.at_.symm.trans hm0.at_
    injection this with h1
    injection h1 with h2
    injection h2
  subst ef
  refine ⟨fun pins s σ H Q I q => ?_⟩
  have q2 : (rd X.K W (eVar i)) σ H fun v H1 => ∃ a dx fs, v = .ref a ∧ H1 a = some (.ins (He.ga X.K c) dx fs) ∧ rda X.K W fa σ H1 fun vs H2 => (∃ dx fs, H2 a = some (.ins (He.ga X.K c) dx fs)) ∧ spD X.K g (.ref a :: vs) H2 Q (fun c d H' => W c d σ H') := by
    refine Rdg.bind (R := VR X.K) (k := kCallO c g fa) q fun L0 io0 H0 L io H1 ev S d v fr rv q1 => ?_
    unfold kCallO at q1
    cases h1 : insOf S d with
    | none => rw [h1] at q1; exact q1.elim
    | some z =>
      obtain ⟨c', fs⟩ := z
      rw [h1] at q1
      simp only at q1
      split at q1
      · rename_i hc'
        subst hc'
        obtain ⟨p, dx, vs, rfl, e1⟩ := insOf_ty fr.st (.inl rv) h1
        refine ⟨p, dx, vs, rfl, e1, ?_⟩
        refine Fin.bind (R := VRs X.K) (k := kCallP c' g d) fr q1 fun L2' io2 H2 S2 as ws s2 fr2 r2 q3 => ?_
        have rv2 := rv.step s2 fr.st.sub
        unfold kCallP at q3
        cases h2 : insOf S2 d with
        | none => rw [h2] at q3; exact q3.elim
        | some z2 =>
          obtain ⟨c2, fs2⟩ := z2
          rw [h2] at q3
          simp only at q3
          split at q3
          · rename_i hc2
            subst hc2
            obtain ⟨p2, dx2, vs2, e3, e4⟩ := insOf_ty fr2.st (.inl rv2) h2
            cases e3
            exact ⟨⟨_, _, e4⟩, spD_fin fr2.st (.cons rv2 r2) q3⟩
          · exact q3.elim
      · exact q1.elim
  refine wpAny_Call_Name_kw (thn ((qe_var (W := W) (X := X) (pos := p) i hN hv hdb hcd).run pins s σ H _ I q2) fun u s1 ⟨v, H1, I1, r1, a, dx, fs, ev, ea, q3⟩ => ?_)
  subst ev
  cases (show u = Value.ref a from r1)
  refine kco_cw (C := He.ga X.K c) (first := []) (thn (ha.run pos pins s1 σ H1 _ I1 q3) fun us s2 ⟨vs, H2, I2, r2, ⟨dx2, fs2, ea2⟩, q4⟩ => ?_) he hpl
  obtain ⟨mA, J, _⟩ := ins_get I2.hok ea2
  obtain ⟨od, J, _⟩ := J.look
  refine ⟨⟨_, _, rfl, J⟩, ?_⟩
  have r3 : Vals (V.ref a :: (vs ++ [])) (Value.ref a :: (us ++ ds)) := .cons rfl (r2.append hvd)
  have hl : (Value.ref a :: us ++ ds).length = ps.length := by
    have := r3.length
    have l2 := F.len _ _ _ _ q4
    simp only [List.length_cons, List.append_nil] at this l2
    simp only [List.cons_append, List.length_cons]
    omega
  show wpAny _ _ (call (.ref a) ([] ++ us)) _ _ _
  refine wpAny_call (PySem.W.kco_code I2.kIn J rfl hm.at_ hm.fn hfn (codeAny_mono (F.run X.A X.stack s2 H2 ⟨.ref a :: us, []⟩ _ _ Q _ hr.low I2.env0 (hb s2 (.ref a :: us) I2.kIn hl) (by simpa using r3) (by simpa using q4)) fun rr s' z => ?_))
  match rr, z with
  | .error e, z => exact tk e s' (XE.of_call I2 (fun _ _ _ q => q) z)
  | .ok (.ret u), z => exact I2.after z
  | .ok .next, z => exact z.elim
  | .ok .brk, z => exact z.elim
  | .ok .cont, z => exact z.elim
end
def augF (op : Dv → Dv → Option Dv) (c f : Str) (k : Nat) (x : Dv) (e : Env) (y : Dv) (S : Sto) : Out := match op x y with
  | some z => (match setF c f S (.hdl k) z with
    | some S2 => .nx e S2
    | none => .no)
  | none => .no
def kAugF (op : Dv → Dv → Option Dv) (c f : Str) (fv : DE) (e : Env) (o : Dv) (S : Sto) : Out := match o with
  | .hdl k => (match S[k]? with
    | some (.ins c' fs) => if c' = c then (match fs.lookup f with
      | some x => sBind fv (augF op c f k x) e S
      | none => .no) else .no
    | _ => .no)
  | _ => .no
def sAugF (op : Dv → Dv → Option Dv) (c f : Str) (fo fv : DE) : DS := sBind fo (kAugF op c f fv)
section
variable {X : Cx} {W : WX} {pos tpos : Pos} {o a : Expr} {c f : Str} {fo fv : DE}
theorem qs_augF {op : Operator} {rd' : V → V → Hp → VK → Prop} {od : Dv → Dv → Option Dv} (hf : Fl X.K c f) (hop : InOp X op rd') (hod : IpS X.K rd' od) (ho : QE X W o fo) (hv : QE X W a fv) : QS X W (.AugAssign (.Attribute o f tpos) op a pos) (sAugF od c f fo fv) := ps_imp (ps_fldaug ho hv hop) fun D g H h => by
  refine rds_bind (R := VR X.K) (k := kAugF od c f fv) h fun L0 io0 H0 L io H1 e S d v fr rv q => ?_
  unfold kAugF at q
  cases d with
  | hdl k =>
    cases rv with
    | hdl hk =>
      rename_i p
      cases h1 : S[k]? with
      | none => simp only [h1] at q; exact q.elim
      | some ob =>
        cases ob with
        | ins c' fs =>
          simp only [h1] at q
          split at q
          · rename_i hc
            subst hc
            cases h2 : fs.lookup f with
            | none => rw [h2] at q; exact q.elim
            | some x =>
              rw [h2] at q
              simp only at q
              obtain ⟨dx, vs, e1, e2⟩ := fr.st.obj k p _ hk h1
              obtain ⟨vx, l1, l2⟩ := pairR_look e2 h2
              refine ⟨p, _, dx, vs, vx, rfl, e1, hf.kc, hf.kn, l1, ?_⟩
              refine outR.bind (R := VR X.K) (k := augF od c' f k x) fr q fun M3 io3 H3 S3 dy vy s3 fr3 ry q3 => ?_
              unfold augF at q3
              cases h3 : od x dy with
              | none => rw [h3] at q3; exact q3.elim
              | some z =>
                rw [h3] at q3
                simp only at q3
                refine hod M3 io3 H3 vx vy x dy z _ (l2.step s3 fr.st.sub) ry h3 fun vz rz => ?_
                simp only [setF] at q3
                have hk3 : io3[k]? = some p := by
                  obtain ⟨m, rfl⟩ := s3.pre
                  exact io_keep hk
                cases h4 : S3[k]? with
                | none => rw [h4] at q3; exact q3.elim
                | some ob3 =>
                  cases ob3 with
                  | ins c3 fs3 =>
                    rw [h4] at q3
                    simp only at q3
                    split at q3
                    · rename_i S4 hz
                      split at hz
                      · rename_i hc3
                        cases hz
                        obtain ⟨hc3, hl3⟩ := hc3
                        subst hc3
                        obtain ⟨dx3, vs3, e3, e4⟩ := fr3.st.obj k p _ hk3 h4
                        have lp : M3 p := fr3.st.sub p (List.mem_of_getElem? hk3)
                        refine ⟨dx3, vs3, e3, by rw [e4.size]; exact hl3, ?_⟩
                        have st : Stp M3 io3 H3 M3 io3 (upd H3 p (.ins (He.ga X.K c3) dx3 (putF f vz vs3))) := Stp.mutH (List.mem_of_getElem? hk3)
                        have sr := fr3.st.setH (ob := .ins c3 (putFD f z fs3)) (o := .ins (He.ga X.K c3) dx3 (putF f vz vs3)) hk3 ⟨dx3, _, upd_same, (PairR.putF rz e4).mono fun v d r => r.mut lp⟩
                        exact q3 g _ M3 io3 (st.stw fr3.st.sub) (fr3.step st sr)
                      · cases hz
                    · exact q3.elim
                  | _ => rw [h4] at q3; exact q3.elim
          · exact q.elim
        | _ => simp only [h1] at q; exact q.elim
  | _ => exact q.elim
end
section
variable (S S' : Sto) (e e' : Env) (d d1 d2 : Dv) (l : List Dv) (m : List (Key × Dv)) (c f : Str) (fs : List (Str × Dv)) (fa : DA) (g : DF) (i k : Nat) (fv fi fo f1 : DE)
@[simp] theorem ev_callO : eCallO c g i fa e S = bnd (kVar S (e[i]?)) (kCallO c g fa e) := rfl
theorem kCallO_obj : kCallO c g fa e (.obj c fs) S = bnd (fa e S) (kCallP c g (.obj c fs)) := by unfold kCallO; simp [insOf]
theorem kCallP_obj : kCallP c g (.obj c fs) l S = g S (.obj c fs :: l) := by unfold kCallP; simp [insOf]
@[simp] theorem ev_augF (op : Dv → Dv → Option Dv) : sAugF op c f fo fv e S = kS (kAugF op c f fv) e (fo e S) := ev_sbind ..
@[simp] theorem ev_dCopy : dCopy fa e S = bnd (fa e S) dcopK := rfl
@[simp] theorem dcopK_dic : dcopK [.dic m] S = .ok m S := rfl
end
end DL
namespace DL
open PySem L2
def rngK1 (d : Dv) (S : Sto) : Res (List Dv) := match d with
  | .int n => if 0 ≤ n ∧ n ≤ 16777216 then .ok (rngD 0 n.toNat) S else .no
  | _ => .no
def fRng (f : DE) : DL := fun e S => bnd (f e S) rngK1
theorem vrs_rng {K : PySem.W.Frag} {L : Addr → Prop} {io : List Addr} {H : Hp} (n : Int) : VRs K L io H (rgV 0 n) (rngD 0 n.toNat) := by
  unfold rgV rngD
  rw [Int.sub_zero]
  generalize List.range n.toNat = l
  induction l with
  | nil => exact .nil
  | cons x r ih => exact .cons (.int _) ih
theorem qf_rng {X : Cx} {W : WX} {p p2 pos pos2 : Pos} {a : Expr} {f : DE} (hm : X.mg "list" = none) (hm2 : X.mg "range" = none) (ha : QE X W a f) (hc : X.calm = true := by rfl) (hg : Gl X "list" := by rfl) (hg2 : Gl X "range" := by rfl) (na : starEach [a] X.env = (false, eval a X.env) :: starEach [] X.env := by rfl)
    (na2 : starEach [.Call (.Name "range" p2) [a] [] pos2] X.env = (false, eval (.Call (.Name "range" p2) [a] [] pos2) X.env) :: starEach [] X.env := by rfl) : QF X W (.Call (.Name "list" p) [.Call (.Name "range" p2) [a] [] pos2] [] pos) (fRng f) :=
  pe_imp (pe_listRg hc hg hm (prg_1 hg2 hm2 ha na) na2) fun g H Q q => by
  obtain ⟨L0, io0, H0, L, io, e, S, fr, q⟩ := q
  refine FinF.bind (R := VR X.K) (k := rngK1) fr q fun L1 io1 H1 S1 d v s1 fr1 rv q => ?_
  unfold rngK1 at q
  cases d with
  | int n =>
    simp only at q
    split at q
    · rename_i hn
      cases rv
      refine ⟨n, rfl, RgOk.of_le (by omega) hn.2 (by omega) hn.1, FinF.new q fr1.st (vrs_rng n)⟩
    · exact q.elim
  | _ => exact q.elim
def kRevL (d : Dv) (S : Sto) : Res (List Dv) := match asL S d with
  | some l => .ok l.reverse S
  | none => .no
def fRevL (f : DE) : DL := fun e S => bnd (f e S) kRevL
theorem VRs.snoc' {K : PySem.W.Frag} {L : Addr → Prop} {io : List Addr} {H : Hp} : ∀ {vs : List V} {ds : List Dv}, VRs K L io H vs ds → VRs K L io H vs.reverse ds.reverse
  | _, _, .nil => .nil
  | _, _, .cons r t => by
    rw [List.reverse_cons, List.reverse_cons]
    exact (VRs.snoc' t).app (.cons r .nil)
theorem qf_revL {X : Cx} {W : WX} {e : Expr} {f : DE} {k : Nat} {p1 p2 p3 pos : Pos} (h : QE X W e f) : QF X W (.Subscript e (.Slice none none (some (.UnaryOp .USub (.Constant (.int 1) k p1) p2)) p3) pos) (fRevL f) := pe_imp (pe_revL h) fun g H Q q => by
  obtain ⟨L0, io0, H0, L, io, e, S, fr, q⟩ := q
  refine FinF.bind (R := VR X.K) (k := kRevL) fr q fun L1 io1 H1 S1 d v s1 fr1 rv q => ?_
  unfold kRevL at q
  cases h1 : asL S1 d with
  | none => rw [h1] at q; exact q.elim
  | some l =>
    rw [h1] at q
    obtain ⟨p, xs, rfl, hs, t⟩ := asL_ok fr1.st rv h1
    exact ⟨p, xs, rfl, hs, FinF.new q fr1.st (VRs.snoc' t)⟩
def kRepL (a : List Dv) (d : Dv) (S : Sto) : Res (List Dv) := match d with
  | .int k => if -(2 ^ 63) ≤ k ∧ k < 2 ^ 63 ∧ a.length * k.toNat ≤ sizeLine then .ok (List.replicate k.toNat a).flatten S else .no
  | _ => .no
def kRepA (f2 : DE) (e : Env) (d : Dv) (S : Sto) : Res (List Dv) := match d with
  | .lst l => bnd (f2 e S) (kRepL l)
  | _ => .no
def fRep (f1 f2 : DE) : DL := fun e S => bnd (f1 e S) (kRepA f2 e)
theorem qf_rep {X : Cx} {W : WX} {pos : Pos} {a b : Expr} {f1 f2 : DE} (ha : QE X W a f1) (hb : QE X W b f2) : QF X W (.BinOp a .Mult b pos) (fRep f1 f2) := pe_imp (pe_op op_rep ha hb) fun g H Q q => by
  obtain ⟨L0, io0, H0, L, io, e, S, fr, q⟩ := q
  refine FinF.bind (R := VR X.K) (k := kRepA f2 e) fr q fun L1 io1 H1 S1 d v s1 fr1 rv q => ?_
  unfold kRepA at q
  cases d with
  | lst l =>
    simp only at q
    refine FinF.bind (R := VR X.K) (k := kRepL l) fr1 q fun L2' io2 H2 S2 d2 v2 s2 fr2 r2 q2 => ?_
    obtain ⟨p, xs, rfl, hp, t⟩ := VX.lst (.inl (rv.step s2 fr1.st.sub))
    unfold kRepL at q2
    cases d2 with
    | int k =>
      simp only at q2
      split at q2
      · rename_i hk
        cases r2
        exact ⟨p, k, xs, rfl, rfl, hp, hk.1, hk.2.1, by rw [t.len]; exact hk.2.2, FinF.new q2 fr2.st (VRs.rep t _)⟩
      · exact q2.elim
    | _ => exact q2.elim
  | _ => exact q.elim
section
variable (S : Sto) (e : Env) (l : List Dv) (f f1 f2 : DE)
@[simp] theorem ev_fRng : fRng f e S = bnd (f e S) rngK1 := rfl
theorem rngK1_ok (n : Int) (h : 0 ≤ n ∧ n ≤ 16777216) : rngK1 (.int n) S = .ok (rngD 0 n.toNat) S := if_pos h
@[simp] theorem ev_fRevL : fRevL f e S = bnd (f e S) kRevL := rfl
@[simp] theorem kRevL_lst : kRevL (.lst l) S = .ok l.reverse S := rfl
@[simp] theorem ev_fRep : fRep f1 f2 e S = bnd (f1 e S) (kRepA f2 e) := rfl
@[simp] theorem kRepA_lst : kRepA f2 e (.lst l) S = bnd (f2 e S) (kRepL l) := rfl
end
end DL
namespace DL
open PySem L2
inductive Fn where
  | as_tuples
  | values_in
  | places_in
  | parts_of
  | all_names
  | read_in
  | is_made_of
  | is_helper
  | unset_in
  | has_form
  | is_list_of
  | is_own_name
  | is_name
  | is_word
  | is_sign
  | is_expression
  | is_place
  | is_many
  | is_simple_row
  | is_any
  | is_operand
  | blocks_of
  | fault_in
  | first_fault
  | helper_number
  | Program_init
  | l_bag
  | l_take
  | l_names
  | l_signs
  | l_words
  | l_room
  | l_one
  | l_operand
  | l_value
  | l_place
  | l_row
  | l_rows
  | l_choices
  | Builder_init
  | Builder_fresh
  | Builder_call
  | Builder_read
  | Builder_get_cell
  | Builder_read_place
  | Builder_in_parts
  | Builder_work_all
  | Builder_find_place
  | Builder_work
  | Builder_write_place
  | build_set
  | build_add
  | build_rows
  | Program_rows
  | steps
  | Language_call
  | l_order
  | l_box
  | l_call
  | l_work
  | l_work_all
  | l_find
  | l_store
  | l_do_set
  | l_look
  | l_do_add
  | l_due
  | Language_init
  | l_language
  | law
def Fn.nm : Fn → Str
  | .as_tuples => "as_tuples"
  | .values_in => "values_in"
  | .places_in => "places_in"
  | .parts_of => "parts_of"
  | .all_names => "all_names"
  | .read_in => "read_in"
  | .is_made_of => "is_made_of"
  | .is_helper => "is_helper"
  | .unset_in => "unset_in"
  | .has_form => "has_form"
  | .is_list_of => "is_list_of"
  | .is_own_name => "is_own_name"
  | .is_name => "is_name"
  | .is_word => "is_word"
  | .is_sign => "is_sign"
  | .is_expression => "is_expression"
  | .is_place => "is_place"
  | .is_many => "is_many"
  | .is_simple_row => "is_simple_row"
  | .is_any => "is_any"
  | .is_operand => "is_operand"
  | .blocks_of => "blocks_of"
  | .fault_in => "fault_in"
  | .first_fault => "first_fault"
  | .helper_number => "helper_number"
  | .Program_init => "Program.__init__"
  | .l_bag => "_law_bag"
  | .l_take => "_law_take"
  | .l_names => "_law_names"
  | .l_signs => "_law_signs"
  | .l_words => "_law_words"
  | .l_room => "_law_room"
  | .l_one => "_law_one"
  | .l_operand => "_law_operand"
  | .l_value => "_law_value"
  | .l_place => "_law_place"
  | .l_row => "_law_row"
  | .l_rows => "_law_rows"
  | .l_choices => "_law_choices"
  | .Builder_init => "Builder.__init__"
  | .Builder_fresh => "Builder.fresh"
  | .Builder_call => "Builder.call"
  | .Builder_read => "Builder.read"
  | .Builder_get_cell => "Builder.get_cell"
  | .Builder_read_place => "Builder.read_place"
  | .Builder_in_parts => "Builder.in_parts"
  | .Builder_work_all => "Builder.work_all"
  | .Builder_find_place => "Builder.find_place"
  | .Builder_work => "Builder.work"
  | .Builder_write_place => "Builder.write_place"
  | .build_set => "build_set"
  | .build_add => "build_add"
  | .build_rows => "build_rows"
  | .Program_rows => "Program.rows"
  | .steps => "steps"
  | .Language_call => "Language.__call__"
  | .l_order => "_law_order"
  | .l_box => "_law_box"
  | .l_call => "_law_call"
  | .l_work => "_law_work"
  | .l_work_all => "_law_work_all"
  | .l_find => "_law_find"
  | .l_store => "_law_store"
  | .l_do_set => "_law_do_set"
  | .l_look => "_law_look"
  | .l_do_add => "_law_do_add"
  | .l_due => "_law_due"
  | .Language_init => "Language.__init__"
  | .l_language => "_law_language"
  | .law => "law"
def tbl : List (Str × Fn) := [("is_expression", .is_expression), ("is_place", .is_place), ("is_any", .is_any), ("is_operand", .is_operand)]
def c_DIGITS : Dv := (.str "0123456789")
def c_LETTERS : Dv := (.str "abcdefghijklmnopqrstuvwxyz")
def c_RESERVED : Dv := (.tup [(.str "do"), (.str "if"), (.str "else"), (.str "while"), (.str "end")])
def c_CHOICES : Dv := (.tup [(.str "parts"), (.str "single"), (.str "many"), (.str "adding"), (.str "stores"), (.str "exchanging")])
def t_VALUES : List (Str × Dv) := [("parts", (.tup [(.str "left"), (.str "right")])), ("single", (.tup [(.str "first"), (.str "last")])), ("many", (.tup [(.str "first"), (.str "last"), (.str "each")])), ("adding", (.tup [(.str "early"), (.str "late"), (.str "last"), (.str "twice")])), ("stores", (.tup [(.str "left"), (.str "right")])), ("exchanging", (.tup [(.str "once"), (.str "twice")]))]
def al_Language_0 (l : List Dv) : List Dv := l
def dl_Builder_1 : List Dv := []
def dl_Program_1 : List Dv := []
def fb_as_tuples (c : Fn → DF) : DS := (sSeq (sIf (tTru (eCB isiD (aCons (eVar 0) (aCons (eTup (aCons (eC (.ty "tuple")) (aCons (eC (.ty "list")) aNil))) aNil)))) (sRet (eCB tupleD (aCons (eFrz (fLc (iSq (eVar 0)) (gN 1) tTrue (eCall (c .as_tuples) (aCons (eVar 1) aNil)) [1])) aNil))) sNil) (sRet (eVar 0)))
def g_as_tuples (c : Fn → DF) : DF := runF 1 2 (fb_as_tuples c)
def fb_values_in (c : Fn → DF) : DS := (sSeq (sIf (tVal (eBin eqE (eBin ixD (eVar 0) (eC (.int 0))) (eC (.str "do")))) (sRet (eTup (aCons (eBin ixD (eVar 0) (eC (.int 1))) aNil))) sNil) (sSeq (sIf (tVal (eBin (inD false) (eBin ixD (eVar 0) (eC (.int 0))) (eTup (aCons (eC (.str "set")) (aCons (eC (.str "add")) (aCons (eC (.str "chain")) aNil)))))) (sRet (eTup (aCons (eBin ixD (eVar 0) (eC (.int 2))) aNil))) sNil) (sSeq (sIf (tVal (eBin eqE (eBin ixD (eVar 0) (eC (.int 0))) (eC (.str "many")))) (sRet (eBin ixD (eVar 0) (eC (.int 3)))) sNil) (sSeq (sIf (tVal (eBin eqE (eBin ixD (eVar 0) (eC (.int 0))) (eC (.str "exchange")))) (sRet (eTup aNil)) sNil) (sRet (eBin ixD (eVar 0) (eC (.int 2))))))))
def g_values_in (c : Fn → DF) : DF := runF 1 1 (fb_values_in c)
def fb_places_in (c : Fn → DF) : DS := (sSeq (sIf (tVal (eBin (inD false) (eBin ixD (eVar 0) (eC (.int 0))) (eTup (aCons (eC (.str "set")) (aCons (eC (.str "add")) aNil))))) (sRet (eTup (aCons (eBin ixD (eVar 0) (eC (.int 1))) aNil))) sNil) (sSeq (sIf (tVal (eBin eqE (eBin ixD (eVar 0) (eC (.int 0))) (eC (.str "exchange")))) (sRet (eCut (eVar 0) (oSome (eC (.int 1))) oNone)) sNil) (sSeq (sIf (tVal (eBin (inD false) (eBin ixD (eVar 0) (eC (.int 0))) (eTup (aCons (eC (.str "chain")) (aCons (eC (.str "many")) aNil))))) (sRet (eBin ixD (eVar 0) (eC (.int 1)))) sNil) (sRet (eTup aNil)))))
def g_places_in (c : Fn → DF) : DF := runF 1 1 (fb_places_in c)
def fb_parts_of (c : Fn → DF) : DS := (sSeq (sIf (tVal (eBin eqE (eBin ixD (eVar 0) (eC (.int 0))) (eC (.str "call")))) (sRet (eCB tupleD (aCons (eBin ixD (eVar 0) (eC (.int 2))) aNil))) sNil) (sSeq (sIf (tVal (eBin (inD false) (eBin ixD (eVar 0) (eC (.int 0))) (eTup (aCons (eC (.str "item")) (aCons (eC (.str "slice")) aNil))))) (sRet (eCB tupleD (aCons (eCut (eVar 0) (oSome (eC (.int 1))) oNone) aNil))) sNil) (sRet (eTup aNil))))
def g_parts_of (c : Fn → DF) : DF := runF 1 1 (fb_parts_of c)
def fb_all_names_l0 (c : Fn → DF) : DS := (sOwnM extD 1 (aCons (eCall (c .all_names) (aCons (eVar 2) aNil)) aNil))
def fb_all_names (c : Fn → DF) : DS := (sSeq (sIf (tVal (eBin eqE (eBin ixD (eVar 0) (eC (.int 0))) (eC (.str "name")))) (sRet (eFrz (fLst (aCons (eBin ixD (eVar 0) (eC (.int 1))) aNil)))) sNil) (sSeq (sOwnN 1 (nL (fLst aNil))) (sSeq (sFor (iSq (eCall (c .parts_of) (aCons (eVar 0) aNil))) (gN 2) (fb_all_names_l0 c)) (sSeq (sFz 1) (sRet (eVar 1))))))
def g_all_names (c : Fn → DF) : DF := runF 1 3 (fb_all_names c)
def fb_read_in_l0 (c : Fn → DF) : DS := (sOwnM extD 1 (aCons (eCall (c .all_names) (aCons (eVar 2) aNil)) aNil))
def fb_read_in_l1 (c : Fn → DF) : DS := (sIf (tOr' (tVal (eBin neE (eBin ixD (eVar 3) (eC (.int 0))) (eC (.str "name")))) (tVal (eBin (inD false) (eBin ixD (eVar 0) (eC (.int 0))) (eTup (aCons (eC (.str "add")) (aCons (eC (.str "exchange")) aNil)))))) (sOwnM extD 1 (aCons (eCall (c .all_names) (aCons (eVar 3) aNil)) aNil)) sNil)
def fb_read_in (c : Fn → DF) : DS := (sSeq (sOwnN 1 (nL (fLst aNil))) (sSeq (sFor (iSq (eCall (c .values_in) (aCons (eVar 0) aNil))) (gN 2) (fb_read_in_l0 c)) (sSeq (sFor (iSq (eCall (c .places_in) (aCons (eVar 0) aNil))) (gN 3) (fb_read_in_l1 c)) (sSeq (sFz 1) (sRet (eVar 1))))))
def g_read_in (c : Fn → DF) : DF := runF 1 4 (fb_read_in c)
def fb_is_made_of_l0 (c : Fn → DF) : DS := (sIf (tVal (eBin (inD true) (eVar 2) (eVar 1))) (sRet (eC (.bl false))) sNil)
def fb_is_made_of (c : Fn → DF) : DS := (sSeq (sIf (tOr' (tNot' (tTru (eCB isiD (aCons (eVar 0) (aCons (eC (.ty "str")) aNil))))) (tNot' (tVal (eChn (pu2 ltD) (pu2 leD) (eC (.int 0)) (eCB lenD (aCons (eVar 0) aNil)) (eC (.int 8)))))) (sRet (eC (.bl false))) sNil) (sSeq (sFor (iSq (eVar 0)) (gN 2) (fb_is_made_of_l0 c)) (sRet (eC (.bl true)))))
def g_is_made_of (c : Fn → DF) : DF := runF 2 3 (fb_is_made_of c)
def fb_is_helper (c : Fn → DF) : DS := (sSeq (sIf (tOr' (tNot' (tTru (eCB isiD (aCons (eVar 0) (aCons (eC (.ty "str")) aNil))))) (tOr' (tNot' (tVal (eChn (pu2 leD) (pu2 leD) (eC (.int 2)) (eCB lenD (aCons (eVar 0) aNil)) (eC (.int 3))))) (tVal (eBin neE (eBin ixD (eVar 0) (eC (.int 0))) (eC (.str "h")))))) (sRet (eC (.bl false))) sNil) (sRet (eAnd (eCall (c .is_made_of) (aCons (eCut (eVar 0) (oSome (eC (.int 1))) oNone) (aCons (eC c_DIGITS) aNil))) (eBin neE (eBin ixD (eVar 0) (eC (.int 1))) (eC (.str "0"))))))
def g_is_helper (c : Fn → DF) : DF := runF 1 1 (fb_is_helper c)
def fb_unset_in_l0 (c : Fn → DF) : DS := (sIf (tAnd' (tTru (eCall (c .is_helper) (aCons (eVar 4) aNil))) (tVal (eBin (dinD true) (eVar 4) (eAny 1)))) (sDPutH (eVar 2) (eVar 4) (eC (.bl true))) sNil)
def fb_unset_in_l1 (c : Fn → DF) : DS := (sIf (tVal (eBin eqE (eBin ixD (eVar 5) (eC (.int 0))) (eC (.str "name")))) (sDPutO 1 (eBin ixD (eVar 5) (eC (.int 1))) (eC (.bl true))) sNil)
def fb_unset_in_l2 (c : Fn → DF) : DS := (sSeq (sFor (iSq (eCall (c .read_in) (aCons (eVar 3) aNil))) (gN 4) (fb_unset_in_l0 c)) (sSeq (sFor (iSq (eCall (c .places_in) (aCons (eVar 3) aNil))) (gN 5) (fb_unset_in_l1 c)) (sSeq (sIf (tVal (eBin eqE (eBin ixD (eVar 3) (eC (.int 0))) (eC (.str "while")))) (sSeq (sFz 1) (sExpr (eCall (c .unset_in) (aCons (eBin ixD (eVar 3) (eC (.int 3))) (aCons (eVar 1) (aCons (eVar 2) aNil)))))) sNil) (sIf (tVal (eBin eqE (eBin ixD (eVar 3) (eC (.int 0))) (eC (.str "if")))) (sSeq (sFz 1) (sSeq (sAsg 6 (eCall (c .unset_in) (aCons (eBin ixD (eVar 3) (eC (.int 3))) (aCons (eVar 1) (aCons (eVar 2) aNil))))) (sSeq (sFz 1) (sSeq (sAsg 7 (eCall (c .unset_in) (aCons (eBin ixD (eVar 3) (eC (.int 4))) (aCons (eVar 1) (aCons (eVar 2) aNil))))) sNever)))) sNil))))
def fb_unset_in (c : Fn → DF) : DS := (sSeq (sFz 1) (sSeq (sOwnN 1 (nD (dCopy (aCons (eAny 1) aNil)))) (sSeq (sFor (iSq (eVar 0)) (gN 3) (fb_unset_in_l2 c)) (sSeq (sFz 1) (sRet (eVar 1))))))
def g_unset_in (c : Fn → DF) : DF := runF 3 8 (fb_unset_in c)
def fb_has_form (c : Fn → DF) : DS := (sSeq (sIf (tOr' (tNot' (tTru (eCB isiD (aCons (eVar 0) (aCons (eTup (aCons (eC (.ty "tuple")) (aCons (eC (.ty "list")) aNil))) aNil))))) (tVal (eBin neE (eCB lenD (aCons (eVar 0) aNil)) (eVar 2)))) (sRet (eC (.bl false))) sNil) (sRet (eAnd (eCB isiD (aCons (eBin ixD (eVar 0) (eC (.int 0))) (aCons (eC (.ty "str")) aNil))) (eBin eqE (eBin ixD (eVar 0) (eC (.int 0))) (eVar 1)))))
def g_has_form (c : Fn → DF) : DF := runF 3 3 (fb_has_form c)
def fb_is_list_of_l0 (c : Fn → DF) : DS := (sIf (tNot' (tTru (eCallL (tbOf c tbl) 3 (aCons (eVar 4) aNil)))) (sRet (eC (.bl false))) sNil)
def fb_is_list_of (c : Fn → DF) : DS := (sSeq (sIf (tOr' (tNot' (tTru (eCB isiD (aCons (eVar 0) (aCons (eTup (aCons (eC (.ty "tuple")) (aCons (eC (.ty "list")) aNil))) aNil))))) (tNot' (tVal (eChn (pu2 leD) (pu2 leD) (eVar 1) (eCB lenD (aCons (eVar 0) aNil)) (eVar 2))))) (sRet (eC (.bl false))) sNil) (sSeq (sFor (iSq (eVar 0)) (gN 4) (fb_is_list_of_l0 c)) (sRet (eC (.bl true)))))
def g_is_list_of (c : Fn → DF) : DF := runF 4 5 (fb_is_list_of c)
def fb_is_own_name (c : Fn → DF) : DS := (sRet (eAnd (eCall (c .is_made_of) (aCons (eVar 0) (aCons (eC c_LETTERS) aNil))) (eBin (inD true) (eVar 0) (eC c_RESERVED))))
def g_is_own_name (c : Fn → DF) : DF := runF 1 1 (fb_is_own_name c)
def fb_is_name (c : Fn → DF) : DS := (sRet (eOr (eCall (c .is_own_name) (aCons (eVar 0) aNil)) (eCall (c .is_helper) (aCons (eVar 0) aNil))))
def g_is_name (c : Fn → DF) : DF := runF 1 1 (fb_is_name c)
def fb_is_word (c : Fn → DF) : DS := (sRet (eCall (c .is_made_of) (aCons (eVar 0) (aCons (eBin addD (eC c_LETTERS) (eC c_DIGITS)) aNil))))
def g_is_word (c : Fn → DF) : DF := runF 1 1 (fb_is_word c)
def fb_is_sign (c : Fn → DF) : DS := (sRet (eAnd (eCall (c .is_own_name) (aCons (eVar 0) aNil)) (eBin neE (eVar 0) (eC (.str "split")))))
def g_is_sign (c : Fn → DF) : DF := runF 1 1 (fb_is_sign c)
def fb_is_expression (c : Fn → DF) : DS := (sSeq (sIf (tTru (eCall (c .has_form) (aCons (eVar 0) (aCons (eC (.str "name")) (aCons (eC (.int 2)) aNil))))) (sRet (eCall (c .is_name) (aCons (eBin ixD (eVar 0) (eC (.int 1))) aNil))) sNil) (sSeq (sIf (tTru (eCall (c .has_form) (aCons (eVar 0) (aCons (eC (.str "word")) (aCons (eC (.int 2)) aNil))))) (sRet (eCall (c .is_word) (aCons (eBin ixD (eVar 0) (eC (.int 1))) aNil))) sNil) (sSeq (sIf (tTru (eCall (c .has_form) (aCons (eVar 0) (aCons (eC (.str "call")) (aCons (eC (.int 3)) aNil))))) (sRet (eAnd (eCall (c .is_sign) (aCons (eBin ixD (eVar 0) (eC (.int 1))) aNil)) (eCall (c .is_list_of) (aCons (eBin ixD (eVar 0) (eC (.int 2))) (aCons (eC (.int 0)) (aCons (eC (.int 4)) (aCons (eC (.glo "is_expression")) aNil))))))) sNil) (sSeq (sIf (tOr' (tTru (eCall (c .has_form) (aCons (eVar 0) (aCons (eC (.str "item")) (aCons (eC (.int 3)) aNil))))) (tTru (eCall (c .has_form) (aCons (eVar 0) (aCons (eC (.str "slice")) (aCons (eC (.int 4)) aNil)))))) (sRet (eCall (c .is_list_of) (aCons (eCB listD (aCons (eCut (eVar 0) (oSome (eC (.int 1))) oNone) aNil)) (aCons (eC (.int 2)) (aCons (eC (.int 3)) (aCons (eC (.glo "is_expression")) aNil)))))) sNil) (sRet (eC (.bl false)))))))
def g_is_expression (c : Fn → DF) : DF := runF 1 1 (fb_is_expression c)
def fb_is_place (c : Fn → DF) : DS := (sRet (eAnd (eCall (c .is_expression) (aCons (eVar 0) aNil)) (eBin (inD false) (eBin ixD (eVar 0) (eC (.int 0))) (eTup (aCons (eC (.str "name")) (aCons (eC (.str "item")) (aCons (eC (.str "slice")) aNil)))))))
def g_is_place (c : Fn → DF) : DF := runF 1 1 (fb_is_place c)
def fb_is_many (c : Fn → DF) : DS := (sSeq (sIf (tOr' (tNot' (tTru (eCall (c .has_form) (aCons (eVar 0) (aCons (eC (.str "many")) (aCons (eC (.int 4)) aNil)))))) (tNot' (tTru (eCall (c .is_list_of) (aCons (eBin ixD (eVar 0) (eC (.int 1))) (aCons (eC (.int 2)) (aCons (eC (.int 4)) (aCons (eC (.glo "is_place")) aNil)))))))) (sRet (eC (.bl false))) sNil) (sSeq (sPar3 1 2 3 (aCons (eBin ixD (eVar 0) (eC (.int 1))) (aCons (eBin ixD (eVar 0) (eC (.int 2))) (aCons (eBin ixD (eVar 0) (eC (.int 3))) aNil)))) (sSeq (sIf (tNot' (tTru (eCall (c .is_list_of) (aCons (eVar 3) (aCons (eC (.int 1)) (aCons (eC (.int 4)) (aCons (eC (.glo "is_expression")) aNil))))))) (sRet (eC (.bl false))) sNil) (sSeq (sIf (tVal (eBin (pu2 (isD false)) (eVar 2) (eC .non))) (sRet (eBin (inD false) (eCB lenD (aCons (eVar 3) aNil)) (eTup (aCons (eC (.int 1)) (aCons (eCB lenD (aCons (eVar 1) aNil)) aNil))))) sNil) (sSeq (sIf (tOr' (tNot' (tTru (eCB isiD (aCons (eVar 2) (aCons (eC (.ty "int")) aNil))))) (tTru (eCB isiD (aCons (eVar 2) (aCons (eC (.ty "bool")) aNil))))) (sRet (eC (.bl false))) sNil) (sRet (eAnd (eBin eqE (eCB lenD (aCons (eVar 3) aNil)) (eC (.int 1))) (eChn (pu2 leD) (pu2 ltD) (eC (.int 0)) (eVar 2) (eCB lenD (aCons (eVar 1) aNil))))))))))
def g_is_many (c : Fn → DF) : DF := runF 1 4 (fb_is_many c)
def fb_is_simple_row (c : Fn → DF) : DS := (sSeq (sIf (tTru (eCall (c .has_form) (aCons (eVar 0) (aCons (eC (.str "do")) (aCons (eC (.int 2)) aNil))))) (sRet (eCall (c .is_expression) (aCons (eBin ixD (eVar 0) (eC (.int 1))) aNil))) sNil) (sSeq (sIf (tOr' (tTru (eCall (c .has_form) (aCons (eVar 0) (aCons (eC (.str "set")) (aCons (eC (.int 3)) aNil))))) (tTru (eCall (c .has_form) (aCons (eVar 0) (aCons (eC (.str "add")) (aCons (eC (.int 3)) aNil)))))) (sRet (eAnd (eCall (c .is_place) (aCons (eBin ixD (eVar 0) (eC (.int 1))) aNil)) (eCall (c .is_expression) (aCons (eBin ixD (eVar 0) (eC (.int 2))) aNil)))) sNil) (sSeq (sIf (tTru (eCall (c .has_form) (aCons (eVar 0) (aCons (eC (.str "exchange")) (aCons (eC (.int 3)) aNil))))) (sRet (eAnd (eCall (c .is_place) (aCons (eBin ixD (eVar 0) (eC (.int 1))) aNil)) (eCall (c .is_place) (aCons (eBin ixD (eVar 0) (eC (.int 2))) aNil)))) sNil) (sSeq (sIf (tTru (eCall (c .has_form) (aCons (eVar 0) (aCons (eC (.str "chain")) (aCons (eC (.int 3)) aNil))))) (sRet (eAnd (eCall (c .is_list_of) (aCons (eBin ixD (eVar 0) (eC (.int 1))) (aCons (eC (.int 2)) (aCons (eC (.int 4)) (aCons (eC (.glo "is_place")) aNil))))) (eCall (c .is_expression) (aCons (eBin ixD (eVar 0) (eC (.int 2))) aNil)))) sNil) (sRet (eCall (c .is_many) (aCons (eVar 0) aNil)))))))
def g_is_simple_row (c : Fn → DF) : DF := runF 1 1 (fb_is_simple_row c)
def fb_is_any (c : Fn → DF) : DS := (sRet (eC (.bl true)))
def g_is_any (c : Fn → DF) : DF := runF 1 1 (fb_is_any c)
def fb_is_operand (c : Fn → DF) : DS := (sRet (eAnd (eCall (c .is_expression) (aCons (eVar 0) aNil)) (eBin (inD false) (eBin ixD (eVar 0) (eC (.int 0))) (eTup (aCons (eC (.str "name")) (aCons (eC (.str "word")) aNil))))))
def g_is_operand (c : Fn → DF) : DF := runF 1 1 (fb_is_operand c)
def fb_blocks_of (c : Fn → DF) : DS := (sSeq (sIf (tTru (eCall (c .has_form) (aCons (eVar 0) (aCons (eC (.str "if")) (aCons (eC (.int 5)) aNil))))) (sIf (tNot' (tTru (eCall (c .is_list_of) (aCons (eBin ixD (eVar 0) (eC (.int 4))) (aCons (eC (.int 0)) (aCons (eC (.int 10000)) (aCons (eC (.glo "is_any")) aNil))))))) (sRet (eC .non)) sNil) (sIf (tNot' (tTru (eCall (c .has_form) (aCons (eVar 0) (aCons (eC (.str "while")) (aCons (eC (.int 4)) aNil)))))) (sRet (eC .non)) sNil)) (sSeq (sIf (tOr' (tNot' (tTru (eCall (c .is_sign) (aCons (eBin ixD (eVar 0) (eC (.int 1))) aNil)))) (tNot' (tTru (eCall (c .is_list_of) (aCons (eBin ixD (eVar 0) (eC (.int 2))) (aCons (eC (.int 0)) (aCons (eC (.int 4)) (aCons (eC (.glo "is_operand")) aNil)))))))) (sRet (eC .non)) sNil) (sSeq (sIf (tNot' (tTru (eCall (c .is_list_of) (aCons (eBin ixD (eVar 0) (eC (.int 3))) (aCons (eC (.int 1)) (aCons (eC (.int 10000)) (aCons (eC (.glo "is_any")) aNil))))))) (sRet (eC .non)) sNil) (sRet (eCB tupleD (aCons (eCut (eVar 0) (oSome (eC (.int 3))) oNone) aNil))))))
def g_blocks_of (c : Fn → DF) : DF := runF 1 1 (fb_blocks_of c)
def fb_fault_in_l0 (c : Fn → DF) : DS := (sSeq (sAsg 4 (eCall (c .first_fault) (aCons (eVar 3) aNil))) (sIf (tVal (eBin (pu2 (isD true)) (eVar 4) (eC .non))) (sRet (eBin addD (eTup (aCons (eVar 2) aNil)) (eVar 4))) sNil))
def fb_fault_in (c : Fn → DF) : DS := (sSeq (sIf (tTru (eCall (c .is_simple_row) (aCons (eVar 0) aNil))) (sRet (eC .non)) sNil) (sSeq (sAsg 1 (eCall (c .blocks_of) (aCons (eVar 0) aNil))) (sSeq (sIf (tVal (eBin (pu2 (isD false)) (eVar 1) (eC .non))) (sRet (eTup aNil)) sNil) (sSeq (sFor (iEnum' (aCons (eVar 1) aNil)) (gT (gsCons (gN 2) (gsCons (gN 3) gsNil))) (fb_fault_in_l0 c)) (sRet (eC .non))))))
def g_fault_in (c : Fn → DF) : DF := runF 1 5 (fb_fault_in c)
def fb_first_fault_l0 (c : Fn → DF) : DS := (sSeq (sAsg 3 (eCall (c .fault_in) (aCons (eVar 2) aNil))) (sIf (tVal (eBin (pu2 (isD true)) (eVar 3) (eC .non))) (sRet (eBin addD (eTup (aCons (eVar 1) aNil)) (eVar 3))) sNil))
def fb_first_fault (c : Fn → DF) : DS := (sSeq (sFor (iEnum' (aCons (eVar 0) aNil)) (gT (gsCons (gN 1) (gsCons (gN 2) gsNil))) (fb_first_fault_l0 c)) (sRet (eC .non)))
def g_first_fault (c : Fn → DF) : DF := runF 1 4 (fb_first_fault c)
def fb_helper_number (c : Fn → DF) : DS := (sRet (eCB intD (aCons (eCut (eVar 0) (oSome (eC (.int 1))) oNone) aNil)))
def g_helper_number (c : Fn → DF) : DF := runF 1 1 (fb_helper_number c)
def fb_Program_init (c : Fn → DF) : DS := (sSeq (sAsg 2 (eTup aNil)) (sSeq (sIf (tTru (eCB isiD (aCons (eVar 1) (aCons (eTup (aCons (eC (.ty "tuple")) (aCons (eC (.ty "list")) aNil))) aNil)))) (sAsg 2 (eCall (c .first_fault) (aCons (eVar 1) aNil))) sNil) (sSeq (sIf (tVal (eBin (pu2 (isD true)) (eVar 2) (eC .non))) sNever sNil) (sSeq (sFldH "Program" "held" (eVar 0) (eCall (c .as_tuples) (aCons (eVar 1) aNil))) (sSeq (sAsg 3 (eFrzD dNil)) (sSeq (sExpr (eCall (c .unset_in) (aCons (eFld "Program" "held" (eVar 0)) (aCons (eFrzD dNil) (aCons (eVar 3) aNil))))) (sIf (tTru (eVar 3)) sNever sNil)))))))
def g_Program_init (c : Fn → DF) : DF := runF 2 4 (fb_Program_init c)
def fb_l_bag (c : Fn → DF) : DS := (sRet (eNew (fLst (aCons (eC (.int 0)) (aCons (eC (.int 1234567891)) (aCons (eC (.int 0)) (aCons (eFrz (fLc (iSq (eCut (eVar 0) oNone (oSome (eC (.int 63))))) (gN 1) tTrue (eCB absD (aCons (eVar 1) aNil)) [1])) aNil)))))))
def g_l_bag (c : Fn → DF) : DF := runF 1 2 (fb_l_bag c)
def fb_l_take (c : Fn → DF) : DS := (sSeq (sIf (tVal (eBin eqE (eBin ixD (eVar 0) (eC (.int 0))) (eC (.int 0)))) (sSeq (sAsg 2 (eC (.int 0))) (sSeq (sIf (tVal (eBin (pu2 ltD) (eBin ixD (eVar 0) (eC (.int 2))) (eCB lenD (aCons (eBin ixD (eVar 0) (eC (.int 3))) aNil)))) (sAsg 2 (eBin ixD (eBin ixD (eVar 0) (eC (.int 3))) (eBin ixD (eVar 0) (eC (.int 2))))) sNil) (sSeq (sAugI addI (eVar 0) (eC (.int 2)) (eC (.int 1))) (sSeq (sIf (tVal (eBin (pu2 geD) (eVar 2) (eC (.int 1000000000000000000)))) (sSetI (eVar 0) (eC (.int 0)) (eVar 2)) sNil) (sSeq (sAsg 3 (eBin addD (eBin addD (eBin (pu2 mulD) (eBin ixD (eVar 0) (eC (.int 1))) (eC (.int 48271))) (eBin (pu2 modD) (eCB intD (aCons (eVar 2) aNil)) (eC (.int 2147483647)))) (eBin (pu2 mulD) (eC (.int 7919)) (eBin ixD (eVar 0) (eC (.int 2)))))) (sSetI (eVar 0) (eC (.int 1)) (eBin (pu2 modD) (eCB intD (aCons (eVar 3) aNil)) (eC (.int 2147483647))))))))) sNil) (sSeq (sIf (tVal (eBin (pu2 gtD) (eBin ixD (eVar 0) (eC (.int 0))) (eC (.int 0)))) (sSeq (sAsg 4 (eBin (pu2 modD) (eCB intD (aCons (eBin ixD (eVar 0) (eC (.int 0))) aNil)) (eVar 1))) (sSeq (sSetI (eVar 0) (eC (.int 0)) (eBin (pu2 fdivD) (eCB intD (aCons (eBin ixD (eVar 0) (eC (.int 0))) aNil)) (eVar 1))) (sRet (eVar 4)))) sNil) (sSeq (sAsg 5 (eBin (pu2 modD) (eCB intD (aCons (eBin (pu2 mulD) (eBin addD (eBin ixD (eVar 0) (eC (.int 1))) (eC (.int 1))) (eC (.int 39373))) aNil)) (eC (.int 1000000007)))) (sSeq (sAsg 6 (eBin (pu2 modD) (eCB intD (aCons (eBin (pu2 mulD) (eBin (pu2 modD) (eCB intD (aCons (eBin (pu2 mulD) (eVar 5) (eVar 5)) aNil)) (eC (.int 998244353))) (eC (.int 30011))) aNil)) (eC (.int 998244353)))) (sRet (eBin (pu2 modD) (eCB intD (aCons (eBin (pu2 fdivD) (eVar 6) (eC (.int 7))) aNil)) (eVar 1)))))))
def g_l_take (c : Fn → DF) : DF := runF 2 7 (fb_l_take c)
def fb_l_names (c : Fn → DF) : DS := (sSeq (sAsg 2 (eStrM splitD (eC (.str "a b h i x y ab doit ifs ends whiles elsee hhhhhhhh zzzzzzzz")) (aCons (eC (.str " ")) aNil))) (sSeq (sAsg 3 (eCall (c .l_take) (aCons (eVar 0) (aCons (eC (.int 14)) aNil)))) (sRet (eCut (eBin addD (eVar 2) (eVar 2)) (oSome (eVar 3)) (oSome (eBin addD (eVar 3) (eVar 1)))))))
def g_l_names (c : Fn → DF) : DF := runF 2 4 (fb_l_names c)
def fb_l_signs (c : Fn → DF) : DS := (sSeq (sAsg 2 (eStrM splitD (eC (.str "f g h t add fs gone dod splits cutcut fill cut")) (aCons (eC (.str " ")) aNil))) (sSeq (sAsg 3 (eCall (c .l_take) (aCons (eVar 0) (aCons (eC (.int 12)) aNil)))) (sRet (eCut (eBin addD (eVar 2) (eVar 2)) (oSome (eVar 3)) (oSome (eBin addD (eVar 3) (eVar 1)))))))
def g_l_signs (c : Fn → DF) : DF := runF 2 4 (fb_l_signs c)
def fb_l_words (c : Fn → DF) : DS := (sSeq (sAsg 2 (eStrM splitD (eC (.str "k u no 0 10 noo k9 zzzzzzz9")) (aCons (eC (.str " ")) aNil))) (sSeq (sAsg 3 (eCall (c .l_take) (aCons (eVar 0) (aCons (eC (.int 8)) aNil)))) (sRet (eCut (eBin addD (eVar 2) (eVar 2)) (oSome (eVar 3)) (oSome (eBin addD (eVar 3) (eVar 1)))))))
def g_l_words (c : Fn → DF) : DF := runF 2 4 (fb_l_words c)
def fb_l_room (c : Fn → DF) : DS := (sRet (eNew (fLst (aCons (eVar 1) (aCons (eVar 2) (aCons (eCall (c .l_names) (aCons (eVar 0) (aCons (eVar 3) aNil))) (aCons (eCall (c .l_signs) (aCons (eVar 0) (aCons (eVar 4) aNil))) (aCons (eCall (c .l_words) (aCons (eVar 0) (aCons (eVar 5) aNil))) aNil))))))))
def g_l_room (c : Fn → DF) : DF := runF 6 6 (fb_l_room c)
def fb_l_one (c : Fn → DF) : DS := (sRet (eBin ixD (eVar 1) (eCall (c .l_take) (aCons (eVar 0) (aCons (eCB lenD (aCons (eVar 1) aNil)) aNil)))))
def g_l_one (c : Fn → DF) : DF := runF 2 2 (fb_l_one c)
def fb_l_operand (c : Fn → DF) : DS := (sSeq (sIf (tVal (eBin eqE (eCall (c .l_take) (aCons (eVar 0) (aCons (eC (.int 4)) aNil))) (eC (.int 0)))) (sRet (eTup (aCons (eC (.str "word")) (aCons (eCall (c .l_one) (aCons (eVar 0) (aCons (eBin ixD (eVar 1) (eC (.int 4))) aNil))) aNil)))) sNil) (sRet (eTup (aCons (eC (.str "name")) (aCons (eCall (c .l_one) (aCons (eVar 0) (aCons (eBin ixD (eVar 1) (eC (.int 2))) aNil))) aNil)))))
def g_l_operand (c : Fn → DF) : DF := runF 2 2 (fb_l_operand c)
def fb_l_value (c : Fn → DF) : DS := (sSeq (sAsg 3 (eCall (c .l_take) (aCons (eVar 0) (aCons (eC (.int 8)) aNil)))) (sSeq (sIf (tOr' (tVal (eBin (pu2 ltD) (eVar 2) (eC (.int 1)))) (tVal (eBin (pu2 gtD) (eVar 3) (eC (.int 5))))) (sRet (eCall (c .l_operand) (aCons (eVar 0) (aCons (eVar 1) aNil)))) sNil) (sSeq (sIf (tAnd' (tVal (eBin (pu2 ltD) (eVar 3) (eC (.int 3)))) (tVal (eBin (pu2 gtD) (eBin ixD (eVar 1) (eC (.int 0))) (eC (.int 0))))) (sSeq (sAugI subI (eVar 1) (eC (.int 0)) (eC (.int 1))) (sSeq (sAsg 4 (eBin ixD (eFrz (fLst (aCons (eC (.int 0)) (aCons (eC (.int 1)) (aCons (eC (.int 1)) (aCons (eC (.int 2)) (aCons (eC (.int 3)) (aCons (eC (.int 4)) aNil)))))))) (eCall (c .l_take) (aCons (eVar 0) (aCons (eC (.int 6)) aNil))))) (sSeq (sAsg 5 (eCall (c .l_one) (aCons (eVar 0) (aCons (eBin ixD (eVar 1) (eC (.int 3))) aNil)))) (sRet (eTup (aCons (eC (.str "call")) (aCons (eVar 5) (aCons (eCB tupleD (aCons (eFrz (fLc (iRng1' (aCons (eVar 4) aNil)) (gN 8) tTrue (eCall (c .l_value) (aCons (eVar 0) (aCons (eVar 1) (aCons (eBin (pu2 subD) (eVar 2) (eC (.int 1))) aNil)))) [8])) aNil)) aNil)))))))) sNil) (sSeq (sIf (tAnd' (tVal (eBin (pu2 ltD) (eVar 3) (eC (.int 5)))) (tVal (eBin (pu2 gtD) (eBin ixD (eVar 1) (eC (.int 1))) (eC (.int 0))))) (sSeq (sAugI subI (eVar 1) (eC (.int 1)) (eC (.int 1))) (sSeq (sAsg 6 (eCall (c .l_value) (aCons (eVar 0) (aCons (eVar 1) (aCons (eBin (pu2 subD) (eVar 2) (eC (.int 1))) aNil))))) (sRet (eTup (aCons (eC (.str "item")) (aCons (eVar 6) (aCons (eCall (c .l_value) (aCons (eVar 0) (aCons (eVar 1) (aCons (eBin (pu2 subD) (eVar 2) (eC (.int 1))) aNil)))) aNil))))))) sNil) (sSeq (sIf (tAnd' (tVal (eBin eqE (eVar 3) (eC (.int 5)))) (tAnd' (tVal (eBin (pu2 gtD) (eBin ixD (eVar 1) (eC (.int 0))) (eC (.int 0)))) (tVal (eBin (pu2 gtD) (eBin ixD (eVar 1) (eC (.int 1))) (eC (.int 0)))))) (sSeq (sAugI subI (eVar 1) (eC (.int 0)) (eC (.int 1))) (sSeq (sAugI subI (eVar 1) (eC (.int 1)) (eC (.int 1))) (sSeq (sAsg 6 (eCall (c .l_value) (aCons (eVar 0) (aCons (eVar 1) (aCons (eBin (pu2 subD) (eVar 2) (eC (.int 1))) aNil))))) (sSeq (sAsg 7 (eCall (c .l_value) (aCons (eVar 0) (aCons (eVar 1) (aCons (eBin (pu2 subD) (eVar 2) (eC (.int 1))) aNil))))) (sRet (eTup (aCons (eC (.str "slice")) (aCons (eVar 6) (aCons (eVar 7) (aCons (eCall (c .l_value) (aCons (eVar 0) (aCons (eVar 1) (aCons (eBin (pu2 subD) (eVar 2) (eC (.int 1))) aNil)))) aNil)))))))))) sNil) (sRet (eCall (c .l_operand) (aCons (eVar 0) (aCons (eVar 1) aNil)))))))))
def g_l_value (c : Fn → DF) : DF := runF 3 9 (fb_l_value c)
def fb_l_place (c : Fn → DF) : DS := (sSeq (sAsg 4 (eCall (c .l_take) (aCons (eVar 0) (aCons (eC (.int 6)) aNil)))) (sSeq (sIf (tAnd' (tVal (eBin (pu2 ltD) (eVar 4) (eC (.int 4)))) (tVal (eBin (pu2 geD) (eBin ixD (eVar 1) (eC (.int 1))) (eVar 3)))) (sSeq (sAugI subI (eVar 1) (eC (.int 1)) (eVar 3)) (sSeq (sAsg 5 (eCall (c .l_value) (aCons (eVar 0) (aCons (eVar 1) (aCons (eBin (pu2 subD) (eVar 2) (eC (.int 1))) aNil))))) (sRet (eTup (aCons (eC (.str "item")) (aCons (eVar 5) (aCons (eCall (c .l_value) (aCons (eVar 0) (aCons (eVar 1) (aCons (eBin (pu2 subD) (eVar 2) (eC (.int 1))) aNil)))) aNil))))))) sNil) (sSeq (sIf (tAnd' (tVal (eBin eqE (eVar 4) (eC (.int 4)))) (tAnd' (tVal (eBin (pu2 geD) (eBin ixD (eVar 1) (eC (.int 1))) (eVar 3))) (tVal (eBin (pu2 geD) (eBin ixD (eVar 1) (eC (.int 0))) (eVar 3))))) (sSeq (sAugI subI (eVar 1) (eC (.int 1)) (eVar 3)) (sSeq (sAugI subI (eVar 1) (eC (.int 0)) (eVar 3)) (sSeq (sAsg 5 (eCall (c .l_operand) (aCons (eVar 0) (aCons (eVar 1) aNil)))) (sSeq (sAsg 6 (eCall (c .l_value) (aCons (eVar 0) (aCons (eVar 1) (aCons (eBin (pu2 subD) (eVar 2) (eC (.int 1))) aNil))))) (sRet (eTup (aCons (eC (.str "slice")) (aCons (eVar 5) (aCons (eVar 6) (aCons (eCall (c .l_operand) (aCons (eVar 0) (aCons (eVar 1) aNil))) aNil)))))))))) sNil) (sRet (eTup (aCons (eC (.str "name")) (aCons (eCall (c .l_one) (aCons (eVar 0) (aCons (eBin ixD (eVar 1) (eC (.int 2))) aNil))) aNil)))))))
def g_l_place (c : Fn → DF) : DF := runF 4 7 (fb_l_place c)
def fb_l_row (c : Fn → DF) : DS := (sSeq (sAsg 4 (eCall (c .l_one) (aCons (eVar 0) (aCons (eVar 3) aNil)))) (sSeq (sIf (tAnd' (tVal (eBin eqE (eVar 4) (eC (.str "add")))) (tVal (eBin (pu2 gtD) (eBin ixD (eVar 1) (eC (.int 0))) (eC (.int 0))))) (sSeq (sAugI subI (eVar 1) (eC (.int 0)) (eC (.int 1))) (sSeq (sAsg 5 (eCall (c .l_place) (aCons (eVar 0) (aCons (eVar 1) (aCons (eVar 2) (aCons (eC (.int 2)) aNil)))))) (sRet (eTup (aCons (eC (.str "add")) (aCons (eVar 5) (aCons (eCall (c .l_value) (aCons (eVar 0) (aCons (eVar 1) (aCons (eVar 2) aNil)))) aNil))))))) sNil) (sSeq (sIf (tVal (eBin eqE (eVar 4) (eC (.str "exchange")))) (sSeq (sAsg 5 (eCall (c .l_place) (aCons (eVar 0) (aCons (eVar 1) (aCons (eVar 2) (aCons (eC (.int 2)) aNil)))))) (sRet (eTup (aCons (eC (.str "exchange")) (aCons (eVar 5) (aCons (eCall (c .l_place) (aCons (eVar 0) (aCons (eVar 1) (aCons (eVar 2) (aCons (eC (.int 2)) aNil))))) aNil)))))) sNil) (sSeq (sIf (tVal (eBin eqE (eVar 4) (eC (.str "chain")))) (sSeq (sAsg 6 (eFrz (fLc (iRng1' (aCons (eBin addD (eC (.int 2)) (eCall (c .l_take) (aCons (eVar 0) (aCons (eC (.int 3)) aNil)))) aNil)) (gN 7) tTrue (eCall (c .l_place) (aCons (eVar 0) (aCons (eVar 1) (aCons (eVar 2) (aCons (eC (.int 1)) aNil))))) [7]))) (sRet (eTup (aCons (eC (.str "chain")) (aCons (eCB tupleD (aCons (eVar 6) aNil)) (aCons (eCall (c .l_value) (aCons (eVar 0) (aCons (eVar 1) (aCons (eVar 2) aNil)))) aNil)))))) sNil) (sSeq (sIf (tVal (eBin eqE (eVar 4) (eC (.str "many")))) sNever sNil) (sSeq (sIf (tVal (eBin eqE (eVar 4) (eC (.str "do")))) (sRet (eTup (aCons (eC (.str "do")) (aCons (eCall (c .l_value) (aCons (eVar 0) (aCons (eVar 1) (aCons (eVar 2) aNil)))) aNil)))) sNil) (sSeq (sAsg 5 (eCall (c .l_place) (aCons (eVar 0) (aCons (eVar 1) (aCons (eVar 2) (aCons (eC (.int 1)) aNil)))))) (sRet (eTup (aCons (eC (.str "set")) (aCons (eVar 5) (aCons (eCall (c .l_value) (aCons (eVar 0) (aCons (eVar 1) (aCons (eVar 2) aNil)))) aNil))))))))))))
def g_l_row (c : Fn → DF) : DF := runF 4 8 (fb_l_row c)
def fb_l_rows (c : Fn → DF) : DS := (sRet (eFrz (fLc (iRng1' (aCons (eVar 2) aNil)) (gN 5) tTrue (eCall (c .l_row) (aCons (eVar 0) (aCons (eVar 1) (aCons (eVar 3) (aCons (eVar 4) aNil))))) [5])))
def g_l_rows (c : Fn → DF) : DF := runF 5 6 (fb_l_rows c)
def fb_l_choices (c : Fn → DF) : DS := (sSeq (sPar 1 2 (aCons (eCall (c .l_one) (aCons (eVar 0) (aCons (eFrz (fLst (aCons (eC (.str "left")) (aCons (eC (.str "right")) aNil)))) aNil))) (aCons (eCall (c .l_one) (aCons (eVar 0) (aCons (eFrz (fLst (aCons (eC (.str "last")) (aCons (eC (.str "first")) aNil)))) aNil))) aNil))) (sSeq (sAsg 3 (eCall (c .l_one) (aCons (eVar 0) (aCons (eFrz (fLst (aCons (eC (.str "each")) (aCons (eC (.str "first")) (aCons (eC (.str "last")) aNil))))) aNil)))) (sSeq (sAsg 4 (eCall (c .l_one) (aCons (eVar 0) (aCons (eFrz (fLst (aCons (eC (.str "early")) (aCons (eC (.str "late")) (aCons (eC (.str "last")) (aCons (eC (.str "twice")) aNil)))))) aNil)))) (sRet (eTup (aCons (eVar 1) (aCons (eVar 2) (aCons (eVar 3) (aCons (eVar 4) (aCons (eCall (c .l_one) (aCons (eVar 0) (aCons (eFrz (fLst (aCons (eC (.str "left")) (aCons (eC (.str "right")) aNil)))) aNil))) (aCons (eCall (c .l_one) (aCons (eVar 0) (aCons (eFrz (fLst (aCons (eC (.str "once")) (aCons (eC (.str "twice")) aNil)))) aNil))) aNil)))))))))))
def g_l_choices (c : Fn → DF) : DF := runF 1 5 (fb_l_choices c)
def fb_Builder_init (c : Fn → DF) : DS := (sSeq (sFldH "Builder" "rules" (eVar 0) (eVar 1)) (sSeq (sFldH "Builder" "made" (eVar 0) (eNew (fLst aNil))) (sFldH "Builder" "boxes" (eVar 0) (eC (.int 0)))))
def g_Builder_init (c : Fn → DF) : DF := runF 2 2 (fb_Builder_init c)
def fb_Builder_fresh (c : Fn → DF) : DS := (sSeq (sAugF addI "Builder" "boxes" (eVar 0) (eC (.int 1))) (sRet (eBin (pu2 subD) (eFld "Builder" "boxes" (eVar 0)) (eC (.int 1)))))
def g_Builder_fresh (c : Fn → DF) : DF := runF 1 1 (fb_Builder_fresh c)
def fb_Builder_call (c : Fn → DF) : DS := (sSeq (sAsg 3 (eMeth "Builder" "fresh" [] (c .Builder_fresh) (eVar 0) aNil)) (sSeq (sExpr (eHdlM appD (eFld "Builder" "made" (eVar 0)) (aCons (eTup (aCons (eC (.str "call")) (aCons (eTup (aCons (eVar 3) aNil)) (aCons (eVar 1) (aCons (eCB tupleD (aCons (eVar 2) aNil)) aNil))))) aNil))) (sRet (eVar 3))))
def g_Builder_call (c : Fn → DF) : DF := runF 3 4 (fb_Builder_call c)
def fb_Builder_read (c : Fn → DF) : DS := (sSeq (sAsg 2 (eMeth "Builder" "fresh" [] (c .Builder_fresh) (eVar 0) aNil)) (sSeq (sExpr (eHdlM appD (eFld "Builder" "made" (eVar 0)) (aCons (eTup (aCons (eC (.str "read")) (aCons (eVar 2) (aCons (eVar 1) aNil)))) aNil))) (sRet (eVar 2))))
def g_Builder_read (c : Fn → DF) : DF := runF 2 3 (fb_Builder_read c)
def fb_Builder_get_cell (c : Fn → DF) : DS := (sSeq (sAsg 3 (eMeth "Builder" "fresh" [] (c .Builder_fresh) (eVar 0) aNil)) (sSeq (sExpr (eHdlM appD (eFld "Builder" "made" (eVar 0)) (aCons (eTup (aCons (eC (.str "get")) (aCons (eVar 3) (aCons (eVar 1) (aCons (eVar 2) aNil))))) aNil))) (sRet (eVar 3))))
def g_Builder_get_cell (c : Fn → DF) : DF := runF 3 4 (fb_Builder_get_cell c)
def fb_Builder_read_place (c : Fn → DF) : DS := (sSeq (sIf (tVal (eBin eqE (eBin ixD (eVar 1) (eC (.int 0))) (eC (.str "name")))) (sRet (eMeth "Builder" "read" [] (c .Builder_read) (eVar 0) (aCons (eBin ixD (eVar 1) (eC (.int 1))) aNil))) sNil) (sSeq (sIf (tVal (eBin eqE (eBin ixD (eVar 1) (eC (.int 0))) (eC (.str "item")))) (sRet (eMeth "Builder" "get_cell" [] (c .Builder_get_cell) (eVar 0) (aCons (eBin ixD (eBin ixD (eVar 1) (eC (.int 1))) (eC (.int 0))) (aCons (eBin ixD (eBin ixD (eVar 1) (eC (.int 1))) (eC (.int 1))) aNil)))) sNil) (sRet (eMeth "Builder" "call" [] (c .Builder_call) (eVar 0) (aCons (eC (.str "cut")) (aCons (eBin ixD (eVar 1) (eC (.int 1))) aNil))))))
def g_Builder_read_place (c : Fn → DF) : DF := runF 2 2 (fb_Builder_read_place c)
def fb_Builder_in_parts (c : Fn → DF) : DS := (sSeq (sOwnN 2 (nL (fRng (eVar 1)))) (sSeq (sIf (tVal (eBin eqE (eFld "Language" "parts" (eFld "Builder" "rules" (eVar 0))) (eC (.str "right")))) (sOwnM revM 2 aNil) sNil) (sSeq (sFz 2) (sRet (eVar 2)))))
def g_Builder_in_parts (c : Fn → DF) : DF := runF 2 3 (fb_Builder_in_parts c)
def fb_Builder_work_all_l0 (c : Fn → DF) : DS := (sSetO 2 (eVar 3) (eMeth "Builder" "work" [] (c .Builder_work) (eVar 0) (aCons (eBin ixD (eVar 1) (eVar 3)) aNil)))
def fb_Builder_work_all (c : Fn → DF) : DS := (sSeq (sOwnN 2 (nL (fRep (eFrz (fLst (aCons (eC (.int 0)) aNil))) (eCB lenD (aCons (eVar 1) aNil))))) (sSeq (sFor (iSq (eMeth "Builder" "in_parts" [] (c .Builder_in_parts) (eVar 0) (aCons (eCB lenD (aCons (eVar 1) aNil)) aNil))) (gN 3) (fb_Builder_work_all_l0 c)) (sSeq (sFz 2) (sRet (eVar 2)))))
def g_Builder_work_all (c : Fn → DF) : DF := runF 2 4 (fb_Builder_work_all c)
def fb_Builder_find_place (c : Fn → DF) : DS := (sSeq (sIf (tVal (eBin eqE (eBin ixD (eVar 1) (eC (.int 0))) (eC (.str "name")))) (sRet (eVar 1)) sNil) (sRet (eTup (aCons (eBin ixD (eVar 1) (eC (.int 0))) (aCons (eMeth "Builder" "work_all" [] (c .Builder_work_all) (eVar 0) (aCons (eCut (eVar 1) (oSome (eC (.int 1))) oNone) aNil)) aNil)))))
def g_Builder_find_place (c : Fn → DF) : DF := runF 2 2 (fb_Builder_find_place c)
def fb_Builder_work (c : Fn → DF) : DS := (sSeq (sIf (tVal (eBin eqE (eBin ixD (eVar 1) (eC (.int 0))) (eC (.str "name")))) (sRet (eMeth "Builder" "read" [] (c .Builder_read) (eVar 0) (aCons (eBin ixD (eVar 1) (eC (.int 1))) aNil))) sNil) (sSeq (sIf (tVal (eBin eqE (eBin ixD (eVar 1) (eC (.int 0))) (eC (.str "word")))) (sSeq (sAsg 2 (eMeth "Builder" "fresh" [] (c .Builder_fresh) (eVar 0) aNil)) (sSeq (sExpr (eHdlM appD (eFld "Builder" "made" (eVar 0)) (aCons (eTup (aCons (eC (.str "word")) (aCons (eVar 2) (aCons (eBin ixD (eVar 1) (eC (.int 1))) aNil)))) aNil))) (sRet (eVar 2)))) sNil) (sSeq (sIf (tVal (eBin eqE (eBin ixD (eVar 1) (eC (.int 0))) (eC (.str "call")))) (sRet (eMeth "Builder" "call" [] (c .Builder_call) (eVar 0) (aCons (eBin ixD (eVar 1) (eC (.int 1))) (aCons (eMeth "Builder" "work_all" [] (c .Builder_work_all) (eVar 0) (aCons (eBin ixD (eVar 1) (eC (.int 2))) aNil)) aNil)))) sNil) (sRet (eMeth "Builder" "read_place" [] (c .Builder_read_place) (eVar 0) (aCons (eMeth "Builder" "find_place" [] (c .Builder_find_place) (eVar 0) (aCons (eVar 1) aNil)) aNil))))))
def g_Builder_work (c : Fn → DF) : DF := runF 2 3 (fb_Builder_work c)
def fb_Builder_write_place (c : Fn → DF) : DS := (sIf (tVal (eBin eqE (eBin ixD (eVar 1) (eC (.int 0))) (eC (.str "name")))) (sExpr (eHdlM appD (eFld "Builder" "made" (eVar 0)) (aCons (eTup (aCons (eC (.str "write")) (aCons (eBin ixD (eVar 1) (eC (.int 1))) (aCons (eVar 2) aNil)))) aNil))) (sIf (tVal (eBin eqE (eBin ixD (eVar 1) (eC (.int 0))) (eC (.str "item")))) (sExpr (eHdlM appD (eFld "Builder" "made" (eVar 0)) (aCons (eTup (aCons (eC (.str "put")) (aCons (eBin ixD (eBin ixD (eVar 1) (eC (.int 1))) (eC (.int 0))) (aCons (eBin ixD (eBin ixD (eVar 1) (eC (.int 1))) (eC (.int 1))) (aCons (eVar 2) aNil))))) aNil))) (sExpr (eHdlM appD (eFld "Builder" "made" (eVar 0)) (aCons (eTup (aCons (eC (.str "call")) (aCons (eTup aNil) (aCons (eC (.str "fill")) (aCons (eBin addD (eCB tupleD (aCons (eBin ixD (eVar 1) (eC (.int 1))) aNil)) (eTup (aCons (eVar 2) aNil))) aNil))))) aNil)))))
def g_Builder_write_place (c : Fn → DF) : DF := runF 3 3 (fb_Builder_write_place c)
def fb_build_set (c : Fn → DF) : DS := (sIf (tVal (eBin eqE (eFld "Language" "single" (eFld "Builder" "rules" (eVar 0))) (eC (.str "first")))) (sSeq (sAsg 3 (eMeth "Builder" "find_place" [] (c .Builder_find_place) (eVar 0) (aCons (eVar 1) aNil))) (sExpr (eMeth "Builder" "write_place" [] (c .Builder_write_place) (eVar 0) (aCons (eVar 3) (aCons (eMeth "Builder" "work" [] (c .Builder_work) (eVar 0) (aCons (eVar 2) aNil)) aNil))))) (sSeq (sAsg 4 (eMeth "Builder" "work" [] (c .Builder_work) (eVar 0) (aCons (eVar 2) aNil))) (sExpr (eMeth "Builder" "write_place" [] (c .Builder_write_place) (eVar 0) (aCons (eMeth "Builder" "find_place" [] (c .Builder_find_place) (eVar 0) (aCons (eVar 1) aNil)) (aCons (eVar 4) aNil))))))
def g_build_set (c : Fn → DF) : DF := runF 3 5 (fb_build_set c)
def fb_build_add (c : Fn → DF) : DS := (sSeq (sAsg 3 (eFld "Language" "adding" (eFld "Builder" "rules" (eVar 0)))) (sIf (tVal (eBin eqE (eVar 3) (eC (.str "twice")))) (sExpr (eCall (c .build_set) (aCons (eVar 0) (aCons (eVar 1) (aCons (eTup (aCons (eC (.str "call")) (aCons (eC (.str "add")) (aCons (eTup (aCons (eVar 1) (aCons (eVar 2) aNil))) aNil)))) aNil))))) (sIf (tVal (eBin eqE (eVar 3) (eC (.str "last")))) (sSeq (sAsg 4 (eMeth "Builder" "work" [] (c .Builder_work) (eVar 0) (aCons (eVar 2) aNil))) (sSeq (sAsg 5 (eMeth "Builder" "find_place" [] (c .Builder_find_place) (eVar 0) (aCons (eVar 1) aNil))) (sSeq (sAsg 6 (eMeth "Builder" "read_place" [] (c .Builder_read_place) (eVar 0) (aCons (eVar 5) aNil))) (sExpr (eMeth "Builder" "write_place" [] (c .Builder_write_place) (eVar 0) (aCons (eVar 5) (aCons (eMeth "Builder" "call" [] (c .Builder_call) (eVar 0) (aCons (eC (.str "add")) (aCons (eTup (aCons (eVar 6) (aCons (eVar 4) aNil))) aNil))) aNil))))))) (sIf (tVal (eBin eqE (eVar 3) (eC (.str "late")))) (sSeq (sAsg 5 (eMeth "Builder" "find_place" [] (c .Builder_find_place) (eVar 0) (aCons (eVar 1) aNil))) (sSeq (sAsg 4 (eMeth "Builder" "work" [] (c .Builder_work) (eVar 0) (aCons (eVar 2) aNil))) (sSeq (sAsg 6 (eMeth "Builder" "read_place" [] (c .Builder_read_place) (eVar 0) (aCons (eVar 5) aNil))) (sExpr (eMeth "Builder" "write_place" [] (c .Builder_write_place) (eVar 0) (aCons (eVar 5) (aCons (eMeth "Builder" "call" [] (c .Builder_call) (eVar 0) (aCons (eC (.str "add")) (aCons (eTup (aCons (eVar 6) (aCons (eVar 4) aNil))) aNil))) aNil))))))) (sSeq (sAsg 5 (eMeth "Builder" "find_place" [] (c .Builder_find_place) (eVar 0) (aCons (eVar 1) aNil))) (sSeq (sAsg 6 (eMeth "Builder" "read_place" [] (c .Builder_read_place) (eVar 0) (aCons (eVar 5) aNil))) (sSeq (sAsg 4 (eMeth "Builder" "work" [] (c .Builder_work) (eVar 0) (aCons (eVar 2) aNil))) (sExpr (eMeth "Builder" "write_place" [] (c .Builder_write_place) (eVar 0) (aCons (eVar 5) (aCons (eMeth "Builder" "call" [] (c .Builder_call) (eVar 0) (aCons (eC (.str "add")) (aCons (eTup (aCons (eVar 6) (aCons (eVar 4) aNil))) aNil))) aNil)))))))))))
def g_build_add (c : Fn → DF) : DF := runF 3 7 (fb_build_add c)
def fb_build_rows_l0 (c : Fn → DF) : DS := (sIf (tVal (eBin eqE (eBin ixD (eVar 2) (eC (.int 0))) (eC (.str "do")))) (sExpr (eMeth "Builder" "work" [] (c .Builder_work) (eVar 0) (aCons (eBin ixD (eVar 2) (eC (.int 1))) aNil))) (sIf (tVal (eBin eqE (eBin ixD (eVar 2) (eC (.int 0))) (eC (.str "set")))) (sExpr (eCall (c .build_set) (aCons (eVar 0) (aCons (eBin ixD (eVar 2) (eC (.int 1))) (aCons (eBin ixD (eVar 2) (eC (.int 2))) aNil))))) (sIf (tVal (eBin eqE (eBin ixD (eVar 2) (eC (.int 0))) (eC (.str "add")))) (sExpr (eCall (c .build_add) (aCons (eVar 0) (aCons (eBin ixD (eVar 2) (eC (.int 1))) (aCons (eBin ixD (eVar 2) (eC (.int 2))) aNil))))) (sIf (tVal (eBin eqE (eBin ixD (eVar 2) (eC (.int 0))) (eC (.str "exchange")))) sNever (sIf (tVal (eBin eqE (eBin ixD (eVar 2) (eC (.int 0))) (eC (.str "chain")))) sNever (sIf (tVal (eBin eqE (eBin ixD (eVar 2) (eC (.int 0))) (eC (.str "many")))) sNever (sIf (tVal (eBin eqE (eBin ixD (eVar 2) (eC (.int 0))) (eC (.str "if")))) sNever sNever)))))))
def fb_build_rows (c : Fn → DF) : DS := (sFor (iSq (eVar 1)) (gN 2) (fb_build_rows_l0 c))
def g_build_rows (c : Fn → DF) : DF := runF 2 3 (fb_build_rows c)
def fb_Program_rows (c : Fn → DF) : DS := (sRet (eFld "Program" "held" (eVar 0)))
def g_Program_rows (c : Fn → DF) : DF := runF 1 1 (fb_Program_rows c)
def fb_steps (c : Fn → DF) : DS := (sSeq (sAsg 2 (eMkH "Builder" dl_Builder_1 (c .Builder_init) (aCons (eVar 1) aNil))) (sSeq (sExpr (eCall (c .build_rows) (aCons (eVar 2) (aCons (eMeth "Program" "rows" [] (c .Program_rows) (eVar 0) aNil) aNil)))) (sRet (eCB tupleD (aCons (eFld "Builder" "made" (eVar 2)) aNil)))))
def g_steps (c : Fn → DF) : DF := runF 2 3 (fb_steps c)
def fb_Language_call (c : Fn → DF) : DS := (sRet (eCall (c .steps) (aCons (eVar 1) (aCons (eVar 0) aNil))))
def g_Language_call (c : Fn → DF) : DF := runF 2 2 (fb_Language_call c)
def fb_l_order (c : Fn → DF) : DS := (sRet (eIf (tVal (eBin eqE (eVar 0) (eC (.str "left")))) (eFrz (fRng (eVar 1))) (eFrz (fRevL (eFrz (fRng (eVar 1)))))))
def g_l_order (c : Fn → DF) : DF := runF 2 2 (fb_l_order c)
def fb_l_box (c : Fn → DF) : DS := (sSeq (sAugI addI (eVar 0) (eC (.int 0)) (eC (.int 1))) (sSeq (sExpr (eHdlM appD (eBin ixD (eVar 0) (eC (.int 1))) (aCons (eBin addD (eTup (aCons (eVar 1) (aCons (eBin (pu2 subD) (eBin ixD (eVar 0) (eC (.int 0))) (eC (.int 1))) aNil))) (eVar 2)) aNil))) (sRet (eBin (pu2 subD) (eBin ixD (eVar 0) (eC (.int 0))) (eC (.int 1))))))
def g_l_box (c : Fn → DF) : DF := runF 3 3 (fb_l_box c)
def fb_l_call (c : Fn → DF) : DS := (sSeq (sAugI addI (eVar 0) (eC (.int 0)) (eC (.int 1))) (sSeq (sExpr (eHdlM appD (eBin ixD (eVar 0) (eC (.int 1))) (aCons (eTup (aCons (eC (.str "call")) (aCons (eTup (aCons (eBin (pu2 subD) (eBin ixD (eVar 0) (eC (.int 0))) (eC (.int 1))) aNil)) (aCons (eVar 1) (aCons (eCB tupleD (aCons (eVar 2) aNil)) aNil))))) aNil))) (sRet (eBin (pu2 subD) (eBin ixD (eVar 0) (eC (.int 0))) (eC (.int 1))))))
def g_l_call (c : Fn → DF) : DF := runF 3 3 (fb_l_call c)
def fb_l_work (c : Fn → DF) : DS := (sSeq (sIf (tVal (eBin eqE (eBin ixD (eVar 1) (eC (.int 0))) (eC (.str "name")))) (sRet (eCall (c .l_box) (aCons (eVar 0) (aCons (eC (.str "read")) (aCons (eTup (aCons (eBin ixD (eVar 1) (eC (.int 1))) aNil)) aNil))))) sNil) (sSeq (sIf (tVal (eBin eqE (eBin ixD (eVar 1) (eC (.int 0))) (eC (.str "word")))) (sRet (eCall (c .l_box) (aCons (eVar 0) (aCons (eC (.str "word")) (aCons (eTup (aCons (eBin ixD (eVar 1) (eC (.int 1))) aNil)) aNil))))) sNil) (sSeq (sIf (tVal (eBin eqE (eBin ixD (eVar 1) (eC (.int 0))) (eC (.str "call")))) (sRet (eCall (c .l_call) (aCons (eVar 0) (aCons (eBin ixD (eVar 1) (eC (.int 1))) (aCons (eCall (c .l_work_all) (aCons (eVar 0) (aCons (eBin ixD (eVar 1) (eC (.int 2))) aNil))) aNil))))) sNil) (sSeq (sAsg 2 (eCall (c .l_work_all) (aCons (eVar 0) (aCons (eCut (eVar 1) (oSome (eC (.int 1))) oNone) aNil)))) (sSeq (sIf (tVal (eBin eqE (eBin ixD (eVar 1) (eC (.int 0))) (eC (.str "slice")))) (sRet (eCall (c .l_call) (aCons (eVar 0) (aCons (eC (.str "cut")) (aCons (eVar 2) aNil))))) sNil) (sRet (eCall (c .l_box) (aCons (eVar 0) (aCons (eC (.str "get")) (aCons (eCB tupleD (aCons (eVar 2) aNil)) aNil))))))))))
def g_l_work (c : Fn → DF) : DF := runF 2 3 (fb_l_work c)
def fb_l_work_all_l0 (c : Fn → DF) : DS := (sDPutO 2 (eVar 3) (eCall (c .l_work) (aCons (eVar 0) (aCons (eBin ixD (eVar 1) (eVar 3)) aNil))))
def fb_l_work_all (c : Fn → DF) : DS := (sSeq (sOwnN 2 (nD dNil)) (sSeq (sFor (iSq (eCall (c .l_order) (aCons (eBin ixD (eBin ixD (eVar 0) (eC (.int 2))) (eC (.int 0))) (aCons (eCB lenD (aCons (eVar 1) aNil)) aNil)))) (gN 3) (fb_l_work_all_l0 c)) (sRet (eFrz (fLc (iRng1' (aCons (eCB lenD (aCons (eVar 1) aNil)) aNil)) (gN 3) tTrue (eBin dgetD (eAny 2) (eVar 3)) [3])))))
def g_l_work_all (c : Fn → DF) : DF := runF 2 4 (fb_l_work_all c)
def fb_l_find (c : Fn → DF) : DS := (sSeq (sIf (tVal (eBin eqE (eBin ixD (eVar 1) (eC (.int 0))) (eC (.str "name")))) (sRet (eTup (aCons (eBin ixD (eVar 1) (eC (.int 0))) (aCons (eBin ixD (eVar 1) (eC (.int 1))) aNil)))) sNil) (sRet (eTup (aCons (eBin ixD (eVar 1) (eC (.int 0))) (aCons (eCall (c .l_work_all) (aCons (eVar 0) (aCons (eCut (eVar 1) (oSome (eC (.int 1))) oNone) aNil))) aNil)))))
def g_l_find (c : Fn → DF) : DF := runF 2 2 (fb_l_find c)
def fb_l_store (c : Fn → DF) : DS := (sIf (tVal (eBin eqE (eBin ixD (eVar 1) (eC (.int 0))) (eC (.str "name")))) (sExpr (eHdlM appD (eBin ixD (eVar 0) (eC (.int 1))) (aCons (eTup (aCons (eC (.str "write")) (aCons (eBin ixD (eVar 1) (eC (.int 1))) (aCons (eVar 2) aNil)))) aNil))) (sIf (tVal (eBin eqE (eBin ixD (eVar 1) (eC (.int 0))) (eC (.str "item")))) (sExpr (eHdlM appD (eBin ixD (eVar 0) (eC (.int 1))) (aCons (eTup (aCons (eC (.str "put")) (aCons (eBin ixD (eBin ixD (eVar 1) (eC (.int 1))) (eC (.int 0))) (aCons (eBin ixD (eBin ixD (eVar 1) (eC (.int 1))) (eC (.int 1))) (aCons (eVar 2) aNil))))) aNil))) (sExpr (eHdlM appD (eBin ixD (eVar 0) (eC (.int 1))) (aCons (eTup (aCons (eC (.str "call")) (aCons (eTup aNil) (aCons (eC (.str "fill")) (aCons (eBin addD (eCB tupleD (aCons (eBin ixD (eVar 1) (eC (.int 1))) aNil)) (eTup (aCons (eVar 2) aNil))) aNil))))) aNil)))))
def g_l_store (c : Fn → DF) : DF := runF 3 3 (fb_l_store c)
def fb_l_do_set (c : Fn → DF) : DS := (sIf (tVal (eBin eqE (eBin ixD (eBin ixD (eVar 0) (eC (.int 2))) (eC (.int 1))) (eC (.str "first")))) (sSeq (sAsg 3 (eCall (c .l_find) (aCons (eVar 0) (aCons (eVar 1) aNil)))) (sExpr (eCall (c .l_store) (aCons (eVar 0) (aCons (eVar 3) (aCons (eCall (c .l_work) (aCons (eVar 0) (aCons (eVar 2) aNil))) aNil)))))) (sSeq (sAsg 4 (eCall (c .l_work) (aCons (eVar 0) (aCons (eVar 2) aNil)))) (sExpr (eCall (c .l_store) (aCons (eVar 0) (aCons (eCall (c .l_find) (aCons (eVar 0) (aCons (eVar 1) aNil))) (aCons (eVar 4) aNil)))))))
def g_l_do_set (c : Fn → DF) : DF := runF 3 5 (fb_l_do_set c)
def fb_l_look (c : Fn → DF) : DS := (sSeq (sIf (tVal (eBin eqE (eBin ixD (eVar 1) (eC (.int 0))) (eC (.str "name")))) (sRet (eCall (c .l_box) (aCons (eVar 0) (aCons (eC (.str "read")) (aCons (eTup (aCons (eBin ixD (eVar 1) (eC (.int 1))) aNil)) aNil))))) sNil) (sSeq (sIf (tVal (eBin eqE (eBin ixD (eVar 1) (eC (.int 0))) (eC (.str "slice")))) (sRet (eCall (c .l_call) (aCons (eVar 0) (aCons (eC (.str "cut")) (aCons (eBin ixD (eVar 1) (eC (.int 1))) aNil))))) sNil) (sRet (eCall (c .l_box) (aCons (eVar 0) (aCons (eC (.str "get")) (aCons (eCB tupleD (aCons (eBin ixD (eVar 1) (eC (.int 1))) aNil)) aNil)))))))
def g_l_look (c : Fn → DF) : DF := runF 2 2 (fb_l_look c)
def fb_l_do_add_l0 (c : Fn → DF) : DS := (sIf (tVal (eBin eqE (eVar 6) (eC (.str "f")))) (sAsg 3 (eCall (c .l_find) (aCons (eVar 0) (aCons (eVar 1) aNil)))) (sIf (tVal (eBin eqE (eVar 6) (eC (.str "r")))) (sAsg 4 (eCall (c .l_look) (aCons (eVar 0) (aCons (eVar 3) aNil)))) (sAsg 5 (eCall (c .l_work) (aCons (eVar 0) (aCons (eVar 2) aNil))))))
def fb_l_do_add (c : Fn → DF) : DS := (sSeq (sIf (tVal (eBin eqE (eBin ixD (eBin ixD (eVar 0) (eC (.int 2))) (eC (.int 3))) (eC (.str "twice")))) (sRet (eCall (c .l_do_set) (aCons (eVar 0) (aCons (eVar 1) (aCons (eTup (aCons (eC (.str "call")) (aCons (eC (.str "add")) (aCons (eTup (aCons (eVar 1) (aCons (eVar 2) aNil))) aNil)))) aNil))))) sNil) (sSeq (sAsgG (gT (gsCons (gN 3) (gsCons (gN 4) (gsCons (gN 5) gsNil)))) (eTup (aCons (eC .non) (aCons (eC .non) (aCons (eC .non) aNil))))) (sSeq (sFor (iSq (eBin dgetD (eFrzD (dDisp (pCons (eC (.str "early")) (eC (.str "frw")) (pCons (eC (.str "late")) (eC (.str "fwr")) (pCons (eC (.str "last")) (eC (.str "wfr")) pNil))))) (eBin ixD (eBin ixD (eVar 0) (eC (.int 2))) (eC (.int 3))))) (gN 6) (fb_l_do_add_l0 c)) (sRet (eCall (c .l_store) (aCons (eVar 0) (aCons (eVar 3) (aCons (eCall (c .l_call) (aCons (eVar 0) (aCons (eC (.str "add")) (aCons (eFrz (fLst (aCons (eVar 4) (aCons (eVar 5) aNil)))) aNil)))) aNil))))))))
def g_l_do_add (c : Fn → DF) : DF := runF 3 7 (fb_l_do_add c)
def fb_l_due_l0 (c : Fn → DF) : DS := (sIf (tVal (eBin eqE (eBin ixD (eVar 3) (eC (.int 0))) (eC (.str "set")))) (sExpr (eCall (c .l_do_set) (aCons (eVar 2) (aCons (eBin ixD (eVar 3) (eC (.int 1))) (aCons (eBin ixD (eVar 3) (eC (.int 2))) aNil))))) (sExpr (eCall (c .l_do_add) (aCons (eVar 2) (aCons (eBin ixD (eVar 3) (eC (.int 1))) (aCons (eBin ixD (eVar 3) (eC (.int 2))) aNil))))))
def fb_l_due (c : Fn → DF) : DS := (sSeq (sAsg 2 (eNew (fLst (aCons (eC (.int 0)) (aCons (eNew (fLst aNil)) (aCons (eVar 0) aNil)))))) (sSeq (sFor (iSq (eVar 1)) (gN 3) (fb_l_due_l0 c)) (sRet (eCB tupleD (aCons (eBin ixD (eVar 2) (eC (.int 1))) aNil)))))
def g_l_due (c : Fn → DF) : DF := runF 2 4 (fb_l_due c)
def fb_Language_init_l0 (c : Fn → DF) : DS := (sSeq (sIf (tOr' (tNot' (tTru (eCB isiD (aCons (eVar 10) (aCons (eC (.ty "str")) aNil))))) (tVal (eBin (inD true) (eVar 10) (eTab t_VALUES (eVar 9))))) sNever sNil) (sAsg 8 (eBin addD (eBin (pu2 mulD) (eVar 8) (eCB lenD (aCons (eTab t_VALUES (eVar 9)) aNil))) (eTIx (eTab t_VALUES (eVar 9)) (eVar 10)))))
def fb_Language_init (c : Fn → DF) : DS := (sSeq (sPar 7 8 (aCons (eTup (aCons (eVar 1) (aCons (eVar 2) (aCons (eVar 3) (aCons (eVar 4) (aCons (eVar 5) (aCons (eVar 6) aNil))))))) (aCons (eC (.int 0)) aNil))) (sSeq (sFor (iZip' (aCons (eC c_CHOICES) (aCons (eVar 7) aNil))) (gT (gsCons (gN 9) (gsCons (gN 10) gsNil))) (fb_Language_init_l0 c)) (sSeq (sFldH "Language" "given" (eVar 0) (eVar 7)) (sSeq (sFldH "Language" "rank" (eVar 0) (eVar 8)) (sSeq (sFldH "Language" "parts" (eVar 0) (eVar 1)) (sSeq (sFldH "Language" "single" (eVar 0) (eVar 2)) (sSeq (sFldH "Language" "many" (eVar 0) (eVar 3)) (sSeq (sFldH "Language" "adding" (eVar 0) (eVar 4)) (sSeq (sFldH "Language" "stores" (eVar 0) (eVar 5)) (sFldH "Language" "exchanging" (eVar 0) (eVar 6)))))))))))
def g_Language_init (c : Fn → DF) : DF := runF 7 11 (fb_Language_init c)
def fb_l_language (c : Fn → DF) : DS := (sRet (eMkK "Language" 6 al_Language_0 (c .Language_init) (aCons (eBin ixD (eVar 0) (eC (.int 0))) (aCons (eBin ixD (eVar 0) (eC (.int 1))) (aCons (eBin ixD (eVar 0) (eC (.int 2))) (aCons (eBin ixD (eVar 0) (eC (.int 3))) (aCons (eBin ixD (eVar 0) (eC (.int 4))) (aCons (eBin ixD (eVar 0) (eC (.int 5))) aNil))))))))
def g_l_language (c : Fn → DF) : DF := runF 1 1 (fb_l_language c)
def fb_law_l0 (c : Fn → DF) : DS := (sIf (tVal (eBin neE (eCB reprD (aCons (eCallO "Language" (c .Language_call) 9 (aCons (eVar 8) aNil)) aNil)) (eCB reprD (aCons (eCall (c .l_due) (aCons (eVar 10) (aCons (eVar 7) aNil))) aNil)))) (sRet (eC (.bl false))) sNil)
def fb_law_l1 (c : Fn → DF) : DS := (sSeq (sAsg 13 (eCall (c .steps) (aCons (eVar 8) (aCons (eVar 9) aNil)))) (sIf (tOr' (tVal (eBin neE (eVar 13) (eVar 11))) (tVal (eBin neE (eCB reprD (aCons (eVar 13) aNil)) (eCB reprD (aCons (eVar 11) aNil))))) (sRet (eC (.bl false))) sNil))
def fb_law_l2 (c : Fn → DF) : DS := (sSeq (sPar 11 9 (aCons (eCall (c .l_due) (aCons (eVar 10) (aCons (eVar 7) aNil))) (aCons (eCall (c .l_language) (aCons (eVar 10) aNil)) aNil))) (sSeq (sOwnM appD 2 (aCons (eTup (aCons (eVar 9) (aCons (eVar 10) aNil))) aNil)) (sSeq (sFor (iRng1' (aCons (eC (.int 2)) aNil)) (gN 12) (fb_law_l1 c)) (sIf (tVal (eBin neE (eCB reprD (aCons (eCallO "Language" (c .Language_call) 9 (aCons (eVar 8) aNil)) aNil)) (eCB reprD (aCons (eVar 11) aNil)))) (sRet (eC (.bl false))) sNil))))
def fb_law_l3 (c : Fn → DF) : DS := (sSeq (sPar 4 5 (aCons (eCall (c .l_choices) (aCons (eVar 1) aNil)) (aCons (eCall (c .l_choices) (aCons (eVar 1) aNil)) aNil))) (sSeq (sAsg 6 (eCall (c .l_room) (aCons (eVar 1) (aCons (eC (.int 7)) (aCons (eC (.int 7)) (aCons (eC (.int 3)) (aCons (eC (.int 3)) (aCons (eC (.int 3)) aNil)))))))) (sSeq (sAsg 7 (eCall (c .l_rows) (aCons (eVar 1) (aCons (eVar 6) (aCons (eBin addD (eC (.int 1)) (eCall (c .l_take) (aCons (eVar 1) (aCons (eC (.int 3)) aNil)))) (aCons (eBin addD (eC (.int 1)) (eCall (c .l_take) (aCons (eVar 1) (aCons (eC (.int 3)) aNil)))) (aCons (eFrz (fLst (aCons (eC (.str "set")) (aCons (eC (.str "add")) (aCons (eC (.str "add")) aNil))))) aNil))))))) (sSeq (sAsg 8 (eMk "Program" dl_Program_1 (c .Program_init) (aCons (eVar 7) aNil))) (sSeq (sFz 2) (sSeq (sFor (iSq (eVar 2)) (gT (gsCons (gN 9) (gsCons (gN 10) gsNil))) (fb_law_l0 c)) (sSeq (sOwnN 2 (nL (fLst aNil))) (sFor (iSq (eTup (aCons (eVar 4) (aCons (eVar 5) aNil)))) (gN 10) (fb_law_l2 c)))))))))
def fb_law (c : Fn → DF) : DS := (sSeq (sParB [1, 2] (bVa (eCall (c .l_bag) (aCons (eVar 0) aNil)) (bOwn (nL (fLst aNil)) bNil))) (sSeq (sFor (iRng1' (aCons (eC (.int 5)) aNil)) (gN 3) (fb_law_l3 c)) (sRet (eC (.bl true)))))
def g_law (c : Fn → DF) : DF := runF 1 14 (fb_law c)
def step (c : Fn → DF) : Fn → DF
  | .as_tuples => g_as_tuples c
  | .values_in => g_values_in c
  | .places_in => g_places_in c
  | .parts_of => g_parts_of c
  | .all_names => g_all_names c
  | .read_in => g_read_in c
  | .is_made_of => g_is_made_of c
  | .is_helper => g_is_helper c
  | .unset_in => g_unset_in c
  | .has_form => g_has_form c
  | .is_list_of => g_is_list_of c
  | .is_own_name => g_is_own_name c
  | .is_name => g_is_name c
  | .is_word => g_is_word c
  | .is_sign => g_is_sign c
  | .is_expression => g_is_expression c
  | .is_place => g_is_place c
  | .is_many => g_is_many c
  | .is_simple_row => g_is_simple_row c
  | .is_any => g_is_any c
  | .is_operand => g_is_operand c
  | .blocks_of => g_blocks_of c
  | .fault_in => g_fault_in c
  | .first_fault => g_first_fault c
  | .helper_number => g_helper_number c
  | .Program_init => g_Program_init c
  | .l_bag => g_l_bag c
  | .l_take => g_l_take c
  | .l_names => g_l_names c
  | .l_signs => g_l_signs c
  | .l_words => g_l_words c
  | .l_room => g_l_room c
  | .l_one => g_l_one c
  | .l_operand => g_l_operand c
  | .l_value => g_l_value c
  | .l_place => g_l_place c
  | .l_row => g_l_row c
  | .l_rows => g_l_rows c
  | .l_choices => g_l_choices c
  | .Builder_init => g_Builder_init c
  | .Builder_fresh => g_Builder_fresh c
  | .Builder_call => g_Builder_call c
  | .Builder_read => g_Builder_read c
  | .Builder_get_cell => g_Builder_get_cell c
  | .Builder_read_place => g_Builder_read_place c
  | .Builder_in_parts => g_Builder_in_parts c
  | .Builder_work_all => g_Builder_work_all c
  | .Builder_find_place => g_Builder_find_place c
  | .Builder_work => g_Builder_work c
  | .Builder_write_place => g_Builder_write_place c
  | .build_set => g_build_set c
  | .build_add => g_build_add c
  | .build_rows => g_build_rows c
  | .Program_rows => g_Program_rows c
  | .steps => g_steps c
  | .Language_call => g_Language_call c
  | .l_order => g_l_order c
  | .l_box => g_l_box c
  | .l_call => g_l_call c
  | .l_work => g_l_work c
  | .l_work_all => g_l_work_all c
  | .l_find => g_l_find c
  | .l_store => g_l_store c
  | .l_do_set => g_l_do_set c
  | .l_look => g_l_look c
  | .l_do_add => g_l_do_add c
  | .l_due => g_l_due c
  | .Language_init => g_Language_init c
  | .l_language => g_l_language c
  | .law => g_law c
def calls : Nat → Fn → DF
  | 0 => fun _ => gNo
  | n + 1 => step (calls n)
theorem ev_as_tuples (n : Nat) (S : Sto) (a0 : Dv) : calls (n + 1) .as_tuples S [a0] = kRun (fb_as_tuples (calls n) [.va a0, .no] S) := ev_run S [a0] (fb_as_tuples (calls n)) 1 2 rfl
theorem ev_values_in (n : Nat) (S : Sto) (a0 : Dv) : calls (n + 1) .values_in S [a0] = kRun (fb_values_in (calls n) [.va a0] S) := ev_run S [a0] (fb_values_in (calls n)) 1 1 rfl
theorem ev_places_in (n : Nat) (S : Sto) (a0 : Dv) : calls (n + 1) .places_in S [a0] = kRun (fb_places_in (calls n) [.va a0] S) := ev_run S [a0] (fb_places_in (calls n)) 1 1 rfl
theorem ev_parts_of (n : Nat) (S : Sto) (a0 : Dv) : calls (n + 1) .parts_of S [a0] = kRun (fb_parts_of (calls n) [.va a0] S) := ev_run S [a0] (fb_parts_of (calls n)) 1 1 rfl
theorem ev_all_names (n : Nat) (S : Sto) (a0 : Dv) : calls (n + 1) .all_names S [a0] = kRun (fb_all_names (calls n) [.va a0, .no, .no] S) := ev_run S [a0] (fb_all_names (calls n)) 1 3 rfl
theorem ev_read_in (n : Nat) (S : Sto) (a0 : Dv) : calls (n + 1) .read_in S [a0] = kRun (fb_read_in (calls n) [.va a0, .no, .no, .no] S) := ev_run S [a0] (fb_read_in (calls n)) 1 4 rfl
theorem ev_is_made_of (n : Nat) (S : Sto) (a0 a1 : Dv) : calls (n + 1) .is_made_of S [a0, a1] = kRun (fb_is_made_of (calls n) [.va a0, .va a1, .no] S) := ev_run S [a0, a1] (fb_is_made_of (calls n)) 2 3 rfl
theorem ev_is_helper (n : Nat) (S : Sto) (a0 : Dv) : calls (n + 1) .is_helper S [a0] = kRun (fb_is_helper (calls n) [.va a0] S) := ev_run S [a0] (fb_is_helper (calls n)) 1 1 rfl
theorem ev_unset_in (n : Nat) (S : Sto) (a0 a1 a2 : Dv) : calls (n + 1) .unset_in S [a0, a1, a2] = kRun (fb_unset_in (calls n) [.va a0, .va a1, .va a2, .no, .no, .no, .no, .no] S) := ev_run S [a0, a1, a2] (fb_unset_in (calls n)) 3 8 rfl
theorem ev_has_form (n : Nat) (S : Sto) (a0 a1 a2 : Dv) : calls (n + 1) .has_form S [a0, a1, a2] = kRun (fb_has_form (calls n) [.va a0, .va a1, .va a2] S) := ev_run S [a0, a1, a2] (fb_has_form (calls n)) 3 3 rfl
theorem ev_is_list_of (n : Nat) (S : Sto) (a0 a1 a2 a3 : Dv) : calls (n + 1) .is_list_of S [a0, a1, a2, a3] = kRun (fb_is_list_of (calls n) [.va a0, .va a1, .va a2, .va a3, .no] S) := ev_run S [a0, a1, a2, a3] (fb_is_list_of (calls n)) 4 5 rfl
theorem ev_is_own_name (n : Nat) (S : Sto) (a0 : Dv) : calls (n + 1) .is_own_name S [a0] = kRun (fb_is_own_name (calls n) [.va a0] S) := ev_run S [a0] (fb_is_own_name (calls n)) 1 1 rfl
theorem ev_is_name (n : Nat) (S : Sto) (a0 : Dv) : calls (n + 1) .is_name S [a0] = kRun (fb_is_name (calls n) [.va a0] S) := ev_run S [a0] (fb_is_name (calls n)) 1 1 rfl
theorem ev_is_word (n : Nat) (S : Sto) (a0 : Dv) : calls (n + 1) .is_word S [a0] = kRun (fb_is_word (calls n) [.va a0] S) := ev_run S [a0] (fb_is_word (calls n)) 1 1 rfl
theorem ev_is_sign (n : Nat) (S : Sto) (a0 : Dv) : calls (n + 1) .is_sign S [a0] = kRun (fb_is_sign (calls n) [.va a0] S) := ev_run S [a0] (fb_is_sign (calls n)) 1 1 rfl
theorem ev_is_expression (n : Nat) (S : Sto) (a0 : Dv) : calls (n + 1) .is_expression S [a0] = kRun (fb_is_expression (calls n) [.va a0] S) := ev_run S [a0] (fb_is_expression (calls n)) 1 1 rfl
theorem ev_is_place (n : Nat) (S : Sto) (a0 : Dv) : calls (n + 1) .is_place S [a0] = kRun (fb_is_place (calls n) [.va a0] S) := ev_run S [a0] (fb_is_place (calls n)) 1 1 rfl
theorem ev_is_simple_row (n : Nat) (S : Sto) (a0 : Dv) : calls (n + 1) .is_simple_row S [a0] = kRun (fb_is_simple_row (calls n) [.va a0] S) := ev_run S [a0] (fb_is_simple_row (calls n)) 1 1 rfl
theorem ev_fault_in (n : Nat) (S : Sto) (a0 : Dv) : calls (n + 1) .fault_in S [a0] = kRun (fb_fault_in (calls n) [.va a0, .no, .no, .no, .no] S) := ev_run S [a0] (fb_fault_in (calls n)) 1 5 rfl
theorem ev_first_fault (n : Nat) (S : Sto) (a0 : Dv) : calls (n + 1) .first_fault S [a0] = kRun (fb_first_fault (calls n) [.va a0, .no, .no, .no] S) := ev_run S [a0] (fb_first_fault (calls n)) 1 4 rfl
theorem ev_Program_init (n : Nat) (S : Sto) (a0 a1 : Dv) : calls (n + 1) .Program_init S [a0, a1] = kRun (fb_Program_init (calls n) [.va a0, .va a1, .no, .no] S) := ev_run S [a0, a1] (fb_Program_init (calls n)) 2 4 rfl
theorem ev_l_bag (n : Nat) (S : Sto) (a0 : Dv) : calls (n + 1) .l_bag S [a0] = kRun (fb_l_bag (calls n) [.va a0, .no] S) := ev_run S [a0] (fb_l_bag (calls n)) 1 2 rfl
theorem ev_l_take (n : Nat) (S : Sto) (a0 a1 : Dv) : calls (n + 1) .l_take S [a0, a1] = kRun (fb_l_take (calls n) [.va a0, .va a1, .no, .no, .no, .no, .no] S) := ev_run S [a0, a1] (fb_l_take (calls n)) 2 7 rfl
theorem ev_l_names (n : Nat) (S : Sto) (a0 a1 : Dv) : calls (n + 1) .l_names S [a0, a1] = kRun (fb_l_names (calls n) [.va a0, .va a1, .no, .no] S) := ev_run S [a0, a1] (fb_l_names (calls n)) 2 4 rfl
theorem ev_l_signs (n : Nat) (S : Sto) (a0 a1 : Dv) : calls (n + 1) .l_signs S [a0, a1] = kRun (fb_l_signs (calls n) [.va a0, .va a1, .no, .no] S) := ev_run S [a0, a1] (fb_l_signs (calls n)) 2 4 rfl
theorem ev_l_words (n : Nat) (S : Sto) (a0 a1 : Dv) : calls (n + 1) .l_words S [a0, a1] = kRun (fb_l_words (calls n) [.va a0, .va a1, .no, .no] S) := ev_run S [a0, a1] (fb_l_words (calls n)) 2 4 rfl
theorem ev_l_room (n : Nat) (S : Sto) (a0 a1 a2 a3 a4 a5 : Dv) : calls (n + 1) .l_room S [a0, a1, a2, a3, a4, a5] = kRun (fb_l_room (calls n) [.va a0, .va a1, .va a2, .va a3, .va a4, .va a5] S) := ev_run S [a0, a1, a2, a3, a4, a5] (fb_l_room (calls n)) 6 6 rfl
theorem ev_l_one (n : Nat) (S : Sto) (a0 a1 : Dv) : calls (n + 1) .l_one S [a0, a1] = kRun (fb_l_one (calls n) [.va a0, .va a1] S) := ev_run S [a0, a1] (fb_l_one (calls n)) 2 2 rfl
theorem ev_l_operand (n : Nat) (S : Sto) (a0 a1 : Dv) : calls (n + 1) .l_operand S [a0, a1] = kRun (fb_l_operand (calls n) [.va a0, .va a1] S) := ev_run S [a0, a1] (fb_l_operand (calls n)) 2 2 rfl
theorem ev_l_value (n : Nat) (S : Sto) (a0 a1 a2 : Dv) : calls (n + 1) .l_value S [a0, a1, a2] = kRun (fb_l_value (calls n) [.va a0, .va a1, .va a2, .no, .no, .no, .no, .no, .no] S) := ev_run S [a0, a1, a2] (fb_l_value (calls n)) 3 9 rfl
theorem ev_l_place (n : Nat) (S : Sto) (a0 a1 a2 a3 : Dv) : calls (n + 1) .l_place S [a0, a1, a2, a3] = kRun (fb_l_place (calls n) [.va a0, .va a1, .va a2, .va a3, .no, .no, .no] S) := ev_run S [a0, a1, a2, a3] (fb_l_place (calls n)) 4 7 rfl
theorem ev_l_row (n : Nat) (S : Sto) (a0 a1 a2 a3 : Dv) : calls (n + 1) .l_row S [a0, a1, a2, a3] = kRun (fb_l_row (calls n) [.va a0, .va a1, .va a2, .va a3, .no, .no, .no, .no] S) := ev_run S [a0, a1, a2, a3] (fb_l_row (calls n)) 4 8 rfl
theorem ev_l_rows (n : Nat) (S : Sto) (a0 a1 a2 a3 a4 : Dv) : calls (n + 1) .l_rows S [a0, a1, a2, a3, a4] = kRun (fb_l_rows (calls n) [.va a0, .va a1, .va a2, .va a3, .va a4, .no] S) := ev_run S [a0, a1, a2, a3, a4] (fb_l_rows (calls n)) 5 6 rfl
theorem ev_l_choices (n : Nat) (S : Sto) (a0 : Dv) : calls (n + 1) .l_choices S [a0] = kRun (fb_l_choices (calls n) [.va a0, .no, .no, .no, .no] S) := ev_run S [a0] (fb_l_choices (calls n)) 1 5 rfl
theorem ev_Builder_init (n : Nat) (S : Sto) (a0 a1 : Dv) : calls (n + 1) .Builder_init S [a0, a1] = kRun (fb_Builder_init (calls n) [.va a0, .va a1] S) := ev_run S [a0, a1] (fb_Builder_init (calls n)) 2 2 rfl
theorem ev_Builder_fresh (n : Nat) (S : Sto) (a0 : Dv) : calls (n + 1) .Builder_fresh S [a0] = kRun (fb_Builder_fresh (calls n) [.va a0] S) := ev_run S [a0] (fb_Builder_fresh (calls n)) 1 1 rfl
theorem ev_Builder_call (n : Nat) (S : Sto) (a0 a1 a2 : Dv) : calls (n + 1) .Builder_call S [a0, a1, a2] = kRun (fb_Builder_call (calls n) [.va a0, .va a1, .va a2, .no] S) := ev_run S [a0, a1, a2] (fb_Builder_call (calls n)) 3 4 rfl
theorem ev_Builder_read (n : Nat) (S : Sto) (a0 a1 : Dv) : calls (n + 1) .Builder_read S [a0, a1] = kRun (fb_Builder_read (calls n) [.va a0, .va a1, .no] S) := ev_run S [a0, a1] (fb_Builder_read (calls n)) 2 3 rfl
theorem ev_Builder_get_cell (n : Nat) (S : Sto) (a0 a1 a2 : Dv) : calls (n + 1) .Builder_get_cell S [a0, a1, a2] = kRun (fb_Builder_get_cell (calls n) [.va a0, .va a1, .va a2, .no] S) := ev_run S [a0, a1, a2] (fb_Builder_get_cell (calls n)) 3 4 rfl
theorem ev_Builder_read_place (n : Nat) (S : Sto) (a0 a1 : Dv) : calls (n + 1) .Builder_read_place S [a0, a1] = kRun (fb_Builder_read_place (calls n) [.va a0, .va a1] S) := ev_run S [a0, a1] (fb_Builder_read_place (calls n)) 2 2 rfl
theorem ev_Builder_in_parts (n : Nat) (S : Sto) (a0 a1 : Dv) : calls (n + 1) .Builder_in_parts S [a0, a1] = kRun (fb_Builder_in_parts (calls n) [.va a0, .va a1, .no] S) := ev_run S [a0, a1] (fb_Builder_in_parts (calls n)) 2 3 rfl
theorem ev_Builder_work_all (n : Nat) (S : Sto) (a0 a1 : Dv) : calls (n + 1) .Builder_work_all S [a0, a1] = kRun (fb_Builder_work_all (calls n) [.va a0, .va a1, .no, .no] S) := ev_run S [a0, a1] (fb_Builder_work_all (calls n)) 2 4 rfl
theorem ev_Builder_find_place (n : Nat) (S : Sto) (a0 a1 : Dv) : calls (n + 1) .Builder_find_place S [a0, a1] = kRun (fb_Builder_find_place (calls n) [.va a0, .va a1] S) := ev_run S [a0, a1] (fb_Builder_find_place (calls n)) 2 2 rfl
theorem ev_Builder_work (n : Nat) (S : Sto) (a0 a1 : Dv) : calls (n + 1) .Builder_work S [a0, a1] = kRun (fb_Builder_work (calls n) [.va a0, .va a1, .no] S) := ev_run S [a0, a1] (fb_Builder_work (calls n)) 2 3 rfl
theorem ev_Builder_write_place (n : Nat) (S : Sto) (a0 a1 a2 : Dv) : calls (n + 1) .Builder_write_place S [a0, a1, a2] = kRun (fb_Builder_write_place (calls n) [.va a0, .va a1, .va a2] S) := ev_run S [a0, a1, a2] (fb_Builder_write_place (calls n)) 3 3 rfl
theorem ev_build_set (n : Nat) (S : Sto) (a0 a1 a2 : Dv) : calls (n + 1) .build_set S [a0, a1, a2] = kRun (fb_build_set (calls n) [.va a0, .va a1, .va a2, .no, .no] S) := ev_run S [a0, a1, a2] (fb_build_set (calls n)) 3 5 rfl
theorem ev_build_add (n : Nat) (S : Sto) (a0 a1 a2 : Dv) : calls (n + 1) .build_add S [a0, a1, a2] = kRun (fb_build_add (calls n) [.va a0, .va a1, .va a2, .no, .no, .no, .no] S) := ev_run S [a0, a1, a2] (fb_build_add (calls n)) 3 7 rfl
theorem ev_build_rows (n : Nat) (S : Sto) (a0 a1 : Dv) : calls (n + 1) .build_rows S [a0, a1] = kRun (fb_build_rows (calls n) [.va a0, .va a1, .no] S) := ev_run S [a0, a1] (fb_build_rows (calls n)) 2 3 rfl
theorem ev_steps (n : Nat) (S : Sto) (a0 a1 : Dv) : calls (n + 1) .steps S [a0, a1] = kRun (fb_steps (calls n) [.va a0, .va a1, .no] S) := ev_run S [a0, a1] (fb_steps (calls n)) 2 3 rfl
theorem ev_Language_call (n : Nat) (S : Sto) (a0 a1 : Dv) : calls (n + 1) .Language_call S [a0, a1] = kRun (fb_Language_call (calls n) [.va a0, .va a1] S) := ev_run S [a0, a1] (fb_Language_call (calls n)) 2 2 rfl
theorem ev_l_order (n : Nat) (S : Sto) (a0 a1 : Dv) : calls (n + 1) .l_order S [a0, a1] = kRun (fb_l_order (calls n) [.va a0, .va a1] S) := ev_run S [a0, a1] (fb_l_order (calls n)) 2 2 rfl
theorem ev_l_box (n : Nat) (S : Sto) (a0 a1 a2 : Dv) : calls (n + 1) .l_box S [a0, a1, a2] = kRun (fb_l_box (calls n) [.va a0, .va a1, .va a2] S) := ev_run S [a0, a1, a2] (fb_l_box (calls n)) 3 3 rfl
theorem ev_l_call (n : Nat) (S : Sto) (a0 a1 a2 : Dv) : calls (n + 1) .l_call S [a0, a1, a2] = kRun (fb_l_call (calls n) [.va a0, .va a1, .va a2] S) := ev_run S [a0, a1, a2] (fb_l_call (calls n)) 3 3 rfl
theorem ev_l_work (n : Nat) (S : Sto) (a0 a1 : Dv) : calls (n + 1) .l_work S [a0, a1] = kRun (fb_l_work (calls n) [.va a0, .va a1, .no] S) := ev_run S [a0, a1] (fb_l_work (calls n)) 2 3 rfl
theorem ev_l_work_all (n : Nat) (S : Sto) (a0 a1 : Dv) : calls (n + 1) .l_work_all S [a0, a1] = kRun (fb_l_work_all (calls n) [.va a0, .va a1, .no, .no] S) := ev_run S [a0, a1] (fb_l_work_all (calls n)) 2 4 rfl
theorem ev_l_find (n : Nat) (S : Sto) (a0 a1 : Dv) : calls (n + 1) .l_find S [a0, a1] = kRun (fb_l_find (calls n) [.va a0, .va a1] S) := ev_run S [a0, a1] (fb_l_find (calls n)) 2 2 rfl
theorem ev_l_store (n : Nat) (S : Sto) (a0 a1 a2 : Dv) : calls (n + 1) .l_store S [a0, a1, a2] = kRun (fb_l_store (calls n) [.va a0, .va a1, .va a2] S) := ev_run S [a0, a1, a2] (fb_l_store (calls n)) 3 3 rfl
theorem ev_l_do_set (n : Nat) (S : Sto) (a0 a1 a2 : Dv) : calls (n + 1) .l_do_set S [a0, a1, a2] = kRun (fb_l_do_set (calls n) [.va a0, .va a1, .va a2, .no, .no] S) := ev_run S [a0, a1, a2] (fb_l_do_set (calls n)) 3 5 rfl
theorem ev_l_look (n : Nat) (S : Sto) (a0 a1 : Dv) : calls (n + 1) .l_look S [a0, a1] = kRun (fb_l_look (calls n) [.va a0, .va a1] S) := ev_run S [a0, a1] (fb_l_look (calls n)) 2 2 rfl
theorem ev_l_do_add (n : Nat) (S : Sto) (a0 a1 a2 : Dv) : calls (n + 1) .l_do_add S [a0, a1, a2] = kRun (fb_l_do_add (calls n) [.va a0, .va a1, .va a2, .no, .no, .no, .no] S) := ev_run S [a0, a1, a2] (fb_l_do_add (calls n)) 3 7 rfl
theorem ev_l_due (n : Nat) (S : Sto) (a0 a1 : Dv) : calls (n + 1) .l_due S [a0, a1] = kRun (fb_l_due (calls n) [.va a0, .va a1, .no, .no] S) := ev_run S [a0, a1] (fb_l_due (calls n)) 2 4 rfl
theorem ev_law (n : Nat) (S : Sto) (a0 : Dv) : calls (n + 1) .law S [a0] = kRun (fb_law (calls n) [.va a0, .no, .no, .no, .no, .no, .no, .no, .no, .no, .no, .no, .no, .no] S) := ev_run S [a0] (fb_law (calls n)) 1 14 rfl
end DL
namespace DL
open PySem L2
def dnA : Nat → List Addr
  | 0 => [0]
  | n + 1 => (n + 1) :: dnA n
def adA (m : Nat) : List Addr := 3 :: 2 :: dnA m
def obsNA (m : Nat) (fa : List Ft) (fn : List Dfn) (ts : List He.Tab) (g : Addr → Option Obj) : AlN := obsN fa fn ts (He.frG g (adA m))
def hookA (m : Nat) (fa : List Ft) (fn : List Dfn) (ts : List He.Tab) : PySem.W.Hook where
  α := AlN
  obs := fun s => obsNA m fa fn ts s.heap.get?
  val := fun w => valN fn ts w
  says := fun w h => ∃ K : PySem.W.Frag, K.In h ∧ SaysN fa fn ts w K
  of := fun _ _ e => ⟨_, He.frG_in, e⟩
  keeps := fun _ _ _ ⟨K, hK, c⟩ k => ⟨K, PySem.W.Frag.In.keeps hK k, c⟩
theorem obsNA_eq {m : Nat} {fa : List Ft} {fn : List Dfn} {ts : List He.Tab} {g : Addr → Option Obj} {s : Shared} (h : ∀ a, g a = s.heap.get? a) : obsNA m fa fn ts g = (hookA m fa fn ts).obs s := by
  have e : g = s.heap.get? := funext h
  rw [e] <;> rfl
end DL
namespace Row
open PySem L2 DL
def top (i : Nat) : Stmt := PySem.Challenge.pw_foundtwice_k24_steps_of_set_and_add.main.body.getD i (.Pass ⟨0, 0, 0, 0⟩)
def inr (i j : Nat) : Stmt := match top i with
  | .ClassDef _ _ _ body _ _ _ _ _ _ _ => body.getD j (.Pass ⟨0, 0, 0, 0⟩)
  | s => s
abbrev st_as_tuples : Stmt := top 47
theorem sc_as_tuples : FnScope ["thing", "member"] ["thing"] (defScope st_as_tuples) := ⟨rfl, rfl, rfl, by decide +kernel, rfl, by decide +kernel, by decide +kernel⟩
theorem bi_as_tuples : BindN "as_tuples" "as_tuples" st_as_tuples ["thing"] := fun _ _ _ _ _ _ us hl => match us, hl with | [_], _ => rfl
abbrev st_values_in : Stmt := top 55
theorem sc_values_in : FnScope ["row"] ["row"] (defScope st_values_in) := ⟨rfl, rfl, rfl, by decide +kernel, rfl, by decide +kernel, by decide +kernel⟩
theorem bi_values_in : BindN "values_in" "values_in" st_values_in ["row"] := fun _ _ _ _ _ _ us hl => match us, hl with | [_], _ => rfl
abbrev st_places_in : Stmt := top 54
theorem sc_places_in : FnScope ["row"] ["row"] (defScope st_places_in) := ⟨rfl, rfl, rfl, by decide +kernel, rfl, by decide +kernel, by decide +kernel⟩
theorem bi_places_in : BindN "places_in" "places_in" st_places_in ["row"] := fun _ _ _ _ _ _ us hl => match us, hl with | [_], _ => rfl
abbrev st_parts_of : Stmt := top 48
theorem sc_parts_of : FnScope ["expression"] ["expression"] (defScope st_parts_of) := ⟨rfl, rfl, rfl, by decide +kernel, rfl, by decide +kernel, by decide +kernel⟩
theorem bi_parts_of : BindN "parts_of" "parts_of" st_parts_of ["expression"] := fun _ _ _ _ _ _ us hl => match us, hl with | [_], _ => rfl
abbrev st_all_names : Stmt := top 49
theorem sc_all_names : FnScope ["expression", "found", "part"] ["expression"] (defScope st_all_names) := ⟨rfl, rfl, rfl, by decide +kernel, rfl, by decide +kernel, by decide +kernel⟩
theorem bi_all_names : BindN "all_names" "all_names" st_all_names ["expression"] := fun _ _ _ _ _ _ us hl => match us, hl with | [_], _ => rfl
abbrev st_read_in : Stmt := top 56
theorem sc_read_in : FnScope ["row", "found", "value", "place"] ["row"] (defScope st_read_in) := ⟨rfl, rfl, rfl, by decide +kernel, rfl, by decide +kernel, by decide +kernel⟩
theorem bi_read_in : BindN "read_in" "read_in" st_read_in ["row"] := fun _ _ _ _ _ _ us hl => match us, hl with | [_], _ => rfl
abbrev st_is_made_of : Stmt := top 30
theorem sc_is_made_of : FnScope ["thing", "letters", "letter"] ["thing", "letters"] (defScope st_is_made_of) := ⟨rfl, rfl, rfl, by decide +kernel, rfl, by decide +kernel, by decide +kernel⟩
theorem bi_is_made_of : BindN "is_made_of" "is_made_of" st_is_made_of ["thing", "letters"] := fun _ _ _ _ _ _ us hl => match us, hl with | [_, _], _ => rfl
abbrev st_is_helper : Stmt := top 32
theorem sc_is_helper : FnScope ["thing"] ["thing"] (defScope st_is_helper) := ⟨rfl, rfl, rfl, by decide +kernel, rfl, by decide +kernel, by decide +kernel⟩
theorem bi_is_helper : BindN "is_helper" "is_helper" st_is_helper ["thing"] := fun _ _ _ _ _ _ us hl => match us, hl with | [_], _ => rfl
abbrev st_unset_in : Stmt := top 57
theorem sc_unset_in : FnScope ["rows", "written", "missing", "row", "name", "place", "one", "other"] ["rows", "written", "missing"] (defScope st_unset_in) := ⟨rfl, rfl, rfl, by decide +kernel, rfl, by decide +kernel, by decide +kernel⟩
theorem bi_unset_in : BindN "unset_in" "unset_in" st_unset_in ["rows", "written", "missing"] := fun _ _ _ _ _ _ us hl => match us, hl with | [_, _, _], _ => rfl
abbrev st_has_form : Stmt := top 37
theorem sc_has_form : FnScope ["thing", "kind", "many"] ["thing", "kind", "many"] (defScope st_has_form) := ⟨rfl, rfl, rfl, by decide +kernel, rfl, by decide +kernel, by decide +kernel⟩
theorem bi_has_form : BindN "has_form" "has_form" st_has_form ["thing", "kind", "many"] := fun _ _ _ _ _ _ us hl => match us, hl with | [_, _, _], _ => rfl
abbrev st_is_list_of : Stmt := top 36
theorem sc_is_list_of : FnScope ["thing", "least", "most", "fits", "member"] ["thing", "least", "most", "fits"] (defScope st_is_list_of) := ⟨rfl, rfl, rfl, by decide +kernel, rfl, by decide +kernel, by decide +kernel⟩
theorem bi_is_list_of : BindN "is_list_of" "is_list_of" st_is_list_of ["thing", "least", "most", "fits"] := fun _ _ _ _ _ _ us hl => match us, hl with | [_, _, _, _], _ => rfl
abbrev st_is_own_name : Stmt := top 31
theorem sc_is_own_name : FnScope ["thing"] ["thing"] (defScope st_is_own_name) := ⟨rfl, rfl, rfl, by decide +kernel, rfl, by decide +kernel, by decide +kernel⟩
theorem bi_is_own_name : BindN "is_own_name" "is_own_name" st_is_own_name ["thing"] := fun _ _ _ _ _ _ us hl => match us, hl with | [_], _ => rfl
abbrev st_is_name : Stmt := top 33
theorem sc_is_name : FnScope ["thing"] ["thing"] (defScope st_is_name) := ⟨rfl, rfl, rfl, by decide +kernel, rfl, by decide +kernel, by decide +kernel⟩
theorem bi_is_name : BindN "is_name" "is_name" st_is_name ["thing"] := fun _ _ _ _ _ _ us hl => match us, hl with | [_], _ => rfl
abbrev st_is_word : Stmt := top 34
theorem sc_is_word : FnScope ["thing"] ["thing"] (defScope st_is_word) := ⟨rfl, rfl, rfl, by decide +kernel, rfl, by decide +kernel, by decide +kernel⟩
theorem bi_is_word : BindN "is_word" "is_word" st_is_word ["thing"] := fun _ _ _ _ _ _ us hl => match us, hl with | [_], _ => rfl
abbrev st_is_sign : Stmt := top 35
theorem sc_is_sign : FnScope ["thing"] ["thing"] (defScope st_is_sign) := ⟨rfl, rfl, rfl, by decide +kernel, rfl, by decide +kernel, by decide +kernel⟩
theorem bi_is_sign : BindN "is_sign" "is_sign" st_is_sign ["thing"] := fun _ _ _ _ _ _ us hl => match us, hl with | [_], _ => rfl
abbrev st_is_expression : Stmt := top 38
theorem sc_is_expression : FnScope ["thing"] ["thing"] (defScope st_is_expression) := ⟨rfl, rfl, rfl, by decide +kernel, rfl, by decide +kernel, by decide +kernel⟩
theorem bi_is_expression : BindN "is_expression" "is_expression" st_is_expression ["thing"] := fun _ _ _ _ _ _ us hl => match us, hl with | [_], _ => rfl
abbrev st_is_place : Stmt := top 40
theorem sc_is_place : FnScope ["thing"] ["thing"] (defScope st_is_place) := ⟨rfl, rfl, rfl, by decide +kernel, rfl, by decide +kernel, by decide +kernel⟩
theorem bi_is_place : BindN "is_place" "is_place" st_is_place ["thing"] := fun _ _ _ _ _ _ us hl => match us, hl with | [_], _ => rfl
abbrev st_is_many : Stmt := top 41
theorem sc_is_many : FnScope ["thing", "places", "rest", "items"] ["thing"] (defScope st_is_many) := ⟨rfl, rfl, rfl, by decide +kernel, rfl, by decide +kernel, by decide +kernel⟩
theorem bi_is_many : BindN "is_many" "is_many" st_is_many ["thing"] := fun _ _ _ _ _ _ us hl => match us, hl with | [_], _ => rfl
abbrev st_is_simple_row : Stmt := top 42
theorem sc_is_simple_row : FnScope ["thing"] ["thing"] (defScope st_is_simple_row) := ⟨rfl, rfl, rfl, by decide +kernel, rfl, by decide +kernel, by decide +kernel⟩
theorem bi_is_simple_row : BindN "is_simple_row" "is_simple_row" st_is_simple_row ["thing"] := fun _ _ _ _ _ _ us hl => match us, hl with | [_], _ => rfl
abbrev st_is_any : Stmt := top 43
theorem sc_is_any : FnScope ["thing"] ["thing"] (defScope st_is_any) := ⟨rfl, rfl, rfl, by decide +kernel, rfl, by decide +kernel, by decide +kernel⟩
theorem bi_is_any : BindN "is_any" "is_any" st_is_any ["thing"] := fun _ _ _ _ _ _ us hl => match us, hl with | [_], _ => rfl
abbrev st_is_operand : Stmt := top 39
theorem sc_is_operand : FnScope ["thing"] ["thing"] (defScope st_is_operand) := ⟨rfl, rfl, rfl, by decide +kernel, rfl, by decide +kernel, by decide +kernel⟩
theorem bi_is_operand : BindN "is_operand" "is_operand" st_is_operand ["thing"] := fun _ _ _ _ _ _ us hl => match us, hl with | [_], _ => rfl
abbrev st_blocks_of : Stmt := top 44
theorem sc_blocks_of : FnScope ["thing"] ["thing"] (defScope st_blocks_of) := ⟨rfl, rfl, rfl, by decide +kernel, rfl, by decide +kernel, by decide +kernel⟩
theorem bi_blocks_of : BindN "blocks_of" "blocks_of" st_blocks_of ["thing"] := fun _ _ _ _ _ _ us hl => match us, hl with | [_], _ => rfl
abbrev st_fault_in : Stmt := top 45
theorem sc_fault_in : FnScope ["row", "blocks", "at", "block", "path"] ["row"] (defScope st_fault_in) := ⟨rfl, rfl, rfl, by decide +kernel, rfl, by decide +kernel, by decide +kernel⟩
theorem bi_fault_in : BindN "fault_in" "fault_in" st_fault_in ["row"] := fun _ _ _ _ _ _ us hl => match us, hl with | [_], _ => rfl
abbrev st_first_fault : Stmt := top 46
theorem sc_first_fault : FnScope ["rows", "at", "row", "path"] ["rows"] (defScope st_first_fault) := ⟨rfl, rfl, rfl, by decide +kernel, rfl, by decide +kernel, by decide +kernel⟩
theorem bi_first_fault : BindN "first_fault" "first_fault" st_first_fault ["rows"] := fun _ _ _ _ _ _ us hl => match us, hl with | [_], _ => rfl
abbrev st_helper_number : Stmt := top 50
theorem sc_helper_number : FnScope ["helper"] ["helper"] (defScope st_helper_number) := ⟨rfl, rfl, rfl, by decide +kernel, rfl, by decide +kernel, by decide +kernel⟩
theorem bi_helper_number : BindN "helper_number" "helper_number" st_helper_number ["helper"] := fun _ _ _ _ _ _ us hl => match us, hl with | [_], _ => rfl
abbrev st_Program_init : Stmt := inr 59 0
theorem sc_Program_init : FnScope ["self", "rows", "path", "missing"] ["self", "rows"] (defScope st_Program_init) := ⟨rfl, rfl, rfl, by decide +kernel, rfl, by decide +kernel, by decide +kernel⟩
theorem bi_Program_init : BindN "__init__" "Program.__init__" st_Program_init ["self", "rows"] := fun _ _ _ _ _ _ us hl => match us, hl with | [_, _], _ => rfl
abbrev st_l_bag : Stmt := top 61
theorem sc_l_bag : FnScope ["_law_script", "_law_cell"] ["_law_script"] (defScope st_l_bag) := ⟨rfl, rfl, rfl, by decide +kernel, rfl, by decide +kernel, by decide +kernel⟩
theorem bi_l_bag : BindN "_law_bag" "_law_bag" st_l_bag ["_law_script"] := fun _ _ _ _ _ _ us hl => match us, hl with | [_], _ => rfl
abbrev st_l_take : Stmt := top 62
theorem sc_l_take : FnScope ["_law_bag_here", "_law_count", "_law_cell", "_law_mixed", "_law_drawn", "_law_early", "_law_second"] ["_law_bag_here", "_law_count"] (defScope st_l_take) := ⟨rfl, rfl, rfl, by decide +kernel, rfl, by decide +kernel, by decide +kernel⟩
theorem bi_l_take : BindN "_law_take" "_law_take" st_l_take ["_law_bag_here", "_law_count"] := fun _ _ _ _ _ _ us hl => match us, hl with | [_, _], _ => rfl
abbrev st_l_names : Stmt := top 64
theorem sc_l_names : FnScope ["_law_bag_here", "_law_count", "_law_menu", "_law_at"] ["_law_bag_here", "_law_count"] (defScope st_l_names) := ⟨rfl, rfl, rfl, by decide +kernel, rfl, by decide +kernel, by decide +kernel⟩
theorem bi_l_names : BindN "_law_names" "_law_names" st_l_names ["_law_bag_here", "_law_count"] := fun _ _ _ _ _ _ us hl => match us, hl with | [_, _], _ => rfl
abbrev st_l_signs : Stmt := top 65
theorem sc_l_signs : FnScope ["_law_bag_here", "_law_count", "_law_menu", "_law_at"] ["_law_bag_here", "_law_count"] (defScope st_l_signs) := ⟨rfl, rfl, rfl, by decide +kernel, rfl, by decide +kernel, by decide +kernel⟩
theorem bi_l_signs : BindN "_law_signs" "_law_signs" st_l_signs ["_law_bag_here", "_law_count"] := fun _ _ _ _ _ _ us hl => match us, hl with | [_, _], _ => rfl
abbrev st_l_words : Stmt := top 66
theorem sc_l_words : FnScope ["_law_bag_here", "_law_count", "_law_menu", "_law_at"] ["_law_bag_here", "_law_count"] (defScope st_l_words) := ⟨rfl, rfl, rfl, by decide +kernel, rfl, by decide +kernel, by decide +kernel⟩
theorem bi_l_words : BindN "_law_words" "_law_words" st_l_words ["_law_bag_here", "_law_count"] := fun _ _ _ _ _ _ us hl => match us, hl with | [_, _], _ => rfl
abbrev st_l_room : Stmt := top 67
theorem sc_l_room : FnScope ["_law_bag_here", "_law_calls", "_law_weight", "_law_names_here", "_law_signs_here", "_law_words_here"] ["_law_bag_here", "_law_calls", "_law_weight", "_law_names_here", "_law_signs_here", "_law_words_here"] (defScope st_l_room) := ⟨rfl, rfl, rfl, by decide +kernel, rfl, by decide +kernel, by decide +kernel⟩
theorem bi_l_room : BindN "_law_room" "_law_room" st_l_room ["_law_bag_here", "_law_calls", "_law_weight", "_law_names_here", "_law_signs_here", "_law_words_here"] := fun _ _ _ _ _ _ us hl => match us, hl with | [_, _, _, _, _, _], _ => rfl
abbrev st_l_one : Stmt := top 63
theorem sc_l_one : FnScope ["_law_bag_here", "_law_some"] ["_law_bag_here", "_law_some"] (defScope st_l_one) := ⟨rfl, rfl, rfl, by decide +kernel, rfl, by decide +kernel, by decide +kernel⟩
theorem bi_l_one : BindN "_law_one" "_law_one" st_l_one ["_law_bag_here", "_law_some"] := fun _ _ _ _ _ _ us hl => match us, hl with | [_, _], _ => rfl
abbrev st_l_operand : Stmt := top 68
theorem sc_l_operand : FnScope ["_law_bag_here", "_law_room_here"] ["_law_bag_here", "_law_room_here"] (defScope st_l_operand) := ⟨rfl, rfl, rfl, by decide +kernel, rfl, by decide +kernel, by decide +kernel⟩
theorem bi_l_operand : BindN "_law_operand" "_law_operand" st_l_operand ["_law_bag_here", "_law_room_here"] := fun _ _ _ _ _ _ us hl => match us, hl with | [_, _], _ => rfl
abbrev st_l_value : Stmt := top 69
theorem sc_l_value : FnScope ["_law_bag_here", "_law_room_here", "_law_deep", "_law_way", "_law_count", "_law_sign", "_law_base", "_law_low", "_law_k"] ["_law_bag_here", "_law_room_here", "_law_deep"] (defScope st_l_value) := ⟨rfl, rfl, rfl, by decide +kernel, rfl, by decide +kernel, by decide +kernel⟩
theorem bi_l_value : BindN "_law_value" "_law_value" st_l_value ["_law_bag_here", "_law_room_here", "_law_deep"] := fun _ _ _ _ _ _ us hl => match us, hl with | [_, _, _], _ => rfl
abbrev st_l_place : Stmt := top 70
theorem sc_l_place : FnScope ["_law_bag_here", "_law_room_here", "_law_deep", "_law_times", "_law_way", "_law_base", "_law_low"] ["_law_bag_here", "_law_room_here", "_law_deep", "_law_times"] (defScope st_l_place) := ⟨rfl, rfl, rfl, by decide +kernel, rfl, by decide +kernel, by decide +kernel⟩
theorem bi_l_place : BindN "_law_place" "_law_place" st_l_place ["_law_bag_here", "_law_room_here", "_law_deep", "_law_times"] := fun _ _ _ _ _ _ us hl => match us, hl with | [_, _, _, _], _ => rfl
abbrev st_l_row : Stmt := top 71
theorem sc_l_row : FnScope ["_law_bag_here", "_law_room_here", "_law_deep", "_law_kinds", "_law_kind", "_law_place_here", "_law_places", "_law_k"] ["_law_bag_here", "_law_room_here", "_law_deep", "_law_kinds"] (defScope st_l_row) := ⟨rfl, rfl, rfl, by decide +kernel, rfl, by decide +kernel, by decide +kernel⟩
theorem bi_l_row : BindN "_law_row" "_law_row" st_l_row ["_law_bag_here", "_law_room_here", "_law_deep", "_law_kinds"] := fun _ _ _ _ _ _ us hl => match us, hl with | [_, _, _, _], _ => rfl
abbrev st_l_rows : Stmt := top 73
theorem sc_l_rows : FnScope ["_law_bag_here", "_law_room_here", "_law_count", "_law_deep", "_law_kinds", "_law_k"] ["_law_bag_here", "_law_room_here", "_law_count", "_law_deep", "_law_kinds"] (defScope st_l_rows) := ⟨rfl, rfl, rfl, by decide +kernel, rfl, by decide +kernel, by decide +kernel⟩
theorem bi_l_rows : BindN "_law_rows" "_law_rows" st_l_rows ["_law_bag_here", "_law_room_here", "_law_count", "_law_deep", "_law_kinds"] := fun _ _ _ _ _ _ us hl => match us, hl with | [_, _, _, _, _], _ => rfl
abbrev st_l_choices : Stmt := top 74
theorem sc_l_choices : FnScope ["_law_bag_here", "_law_pieces", "_law_alone", "_law_count", "_law_grown"] ["_law_bag_here"] (defScope st_l_choices) := ⟨rfl, rfl, rfl, by decide +kernel, rfl, by decide +kernel, by decide +kernel⟩
theorem bi_l_choices : BindN "_law_choices" "_law_choices" st_l_choices ["_law_bag_here"] := fun _ _ _ _ _ _ us hl => match us, hl with | [_], _ => rfl
abbrev st_Builder_init : Stmt := inr 2 0
theorem sc_Builder_init : FnScope ["self", "language"] ["self", "language"] (defScope st_Builder_init) := ⟨rfl, rfl, rfl, by decide +kernel, rfl, by decide +kernel, by decide +kernel⟩
theorem bi_Builder_init : BindN "__init__" "Builder.__init__" st_Builder_init ["self", "language"] := fun _ _ _ _ _ _ us hl => match us, hl with | [_, _], _ => rfl
abbrev st_Builder_fresh : Stmt := inr 2 3
theorem sc_Builder_fresh : FnScope ["self"] ["self"] (defScope st_Builder_fresh) := ⟨rfl, rfl, rfl, by decide +kernel, rfl, by decide +kernel, by decide +kernel⟩
theorem bi_Builder_fresh : BindN "fresh" "Builder.fresh" st_Builder_fresh ["self"] := fun _ _ _ _ _ _ us hl => match us, hl with | [_], _ => rfl
abbrev st_Builder_call : Stmt := inr 2 4
theorem sc_Builder_call : FnScope ["self", "sign", "arguments", "box"] ["self", "sign", "arguments"] (defScope st_Builder_call) := ⟨rfl, rfl, rfl, by decide +kernel, rfl, by decide +kernel, by decide +kernel⟩
theorem bi_Builder_call : BindN "call" "Builder.call" st_Builder_call ["self", "sign", "arguments"] := fun _ _ _ _ _ _ us hl => match us, hl with | [_, _, _], _ => rfl
abbrev st_Builder_read : Stmt := inr 2 5
theorem sc_Builder_read : FnScope ["self", "name", "box"] ["self", "name"] (defScope st_Builder_read) := ⟨rfl, rfl, rfl, by decide +kernel, rfl, by decide +kernel, by decide +kernel⟩
theorem bi_Builder_read : BindN "read" "Builder.read" st_Builder_read ["self", "name"] := fun _ _ _ _ _ _ us hl => match us, hl with | [_, _], _ => rfl
abbrev st_Builder_get_cell : Stmt := inr 2 6
theorem sc_Builder_get_cell : FnScope ["self", "base", "key", "box"] ["self", "base", "key"] (defScope st_Builder_get_cell) := ⟨rfl, rfl, rfl, by decide +kernel, rfl, by decide +kernel, by decide +kernel⟩
theorem bi_Builder_get_cell : BindN "get_cell" "Builder.get_cell" st_Builder_get_cell ["self", "base", "key"] := fun _ _ _ _ _ _ us hl => match us, hl with | [_, _, _], _ => rfl
abbrev st_Builder_read_place : Stmt := inr 2 11
theorem sc_Builder_read_place : FnScope ["self", "found"] ["self", "found"] (defScope st_Builder_read_place) := ⟨rfl, rfl, rfl, by decide +kernel, rfl, by decide +kernel, by decide +kernel⟩
theorem bi_Builder_read_place : BindN "read_place" "Builder.read_place" st_Builder_read_place ["self", "found"] := fun _ _ _ _ _ _ us hl => match us, hl with | [_, _], _ => rfl
abbrev st_Builder_in_parts : Stmt := inr 2 1
theorem sc_Builder_in_parts : FnScope ["self", "many", "order"] ["self", "many"] (defScope st_Builder_in_parts) := ⟨rfl, rfl, rfl, by decide +kernel, rfl, by decide +kernel, by decide +kernel⟩
theorem bi_Builder_in_parts : BindN "in_parts" "Builder.in_parts" st_Builder_in_parts ["self", "many"] := fun _ _ _ _ _ _ us hl => match us, hl with | [_, _], _ => rfl
abbrev st_Builder_work_all : Stmt := inr 2 7
theorem sc_Builder_work_all : FnScope ["self", "expressions", "found", "at"] ["self", "expressions"] (defScope st_Builder_work_all) := ⟨rfl, rfl, rfl, by decide +kernel, rfl, by decide +kernel, by decide +kernel⟩
theorem bi_Builder_work_all : BindN "work_all" "Builder.work_all" st_Builder_work_all ["self", "expressions"] := fun _ _ _ _ _ _ us hl => match us, hl with | [_, _], _ => rfl
abbrev st_Builder_find_place : Stmt := inr 2 9
theorem sc_Builder_find_place : FnScope ["self", "place"] ["self", "place"] (defScope st_Builder_find_place) := ⟨rfl, rfl, rfl, by decide +kernel, rfl, by decide +kernel, by decide +kernel⟩
theorem bi_Builder_find_place : BindN "find_place" "Builder.find_place" st_Builder_find_place ["self", "place"] := fun _ _ _ _ _ _ us hl => match us, hl with | [_, _], _ => rfl
abbrev st_Builder_work : Stmt := inr 2 8
theorem sc_Builder_work : FnScope ["self", "expression", "box"] ["self", "expression"] (defScope st_Builder_work) := ⟨rfl, rfl, rfl, by decide +kernel, rfl, by decide +kernel, by decide +kernel⟩
theorem bi_Builder_work : BindN "work" "Builder.work" st_Builder_work ["self", "expression"] := fun _ _ _ _ _ _ us hl => match us, hl with | [_, _], _ => rfl
abbrev st_Builder_write_place : Stmt := inr 2 12
theorem sc_Builder_write_place : FnScope ["self", "found", "value"] ["self", "found", "value"] (defScope st_Builder_write_place) := ⟨rfl, rfl, rfl, by decide +kernel, rfl, by decide +kernel, by decide +kernel⟩
theorem bi_Builder_write_place : BindN "write_place" "Builder.write_place" st_Builder_write_place ["self", "found", "value"] := fun _ _ _ _ _ _ us hl => match us, hl with | [_, _, _], _ => rfl
abbrev st_build_set : Stmt := top 3
theorem sc_build_set : FnScope ["builder", "place", "expression", "found", "value"] ["builder", "place", "expression"] (defScope st_build_set) := ⟨rfl, rfl, rfl, by decide +kernel, rfl, by decide +kernel, by decide +kernel⟩
theorem bi_build_set : BindN "build_set" "build_set" st_build_set ["builder", "place", "expression"] := fun _ _ _ _ _ _ us hl => match us, hl with | [_, _, _], _ => rfl
abbrev st_build_add : Stmt := top 4
theorem sc_build_add : FnScope ["builder", "place", "expression", "adding", "value", "found", "old"] ["builder", "place", "expression"] (defScope st_build_add) := ⟨rfl, rfl, rfl, by decide +kernel, rfl, by decide +kernel, by decide +kernel⟩
theorem bi_build_add : BindN "build_add" "build_add" st_build_add ["builder", "place", "expression"] := fun _ _ _ _ _ _ us hl => match us, hl with | [_, _, _], _ => rfl
abbrev st_build_rows : Stmt := top 12
theorem sc_build_rows : FnScope ["builder", "rows", "row"] ["builder", "rows"] (defScope st_build_rows) := ⟨rfl, rfl, rfl, by decide +kernel, rfl, by decide +kernel, by decide +kernel⟩
theorem bi_build_rows : BindN "build_rows" "build_rows" st_build_rows ["builder", "rows"] := fun _ _ _ _ _ _ us hl => match us, hl with | [_, _], _ => rfl
abbrev st_Program_rows : Stmt := inr 59 5
theorem sc_Program_rows : FnScope ["self"] ["self"] (defScope st_Program_rows) := ⟨rfl, rfl, rfl, by decide +kernel, rfl, by decide +kernel, by decide +kernel⟩
theorem bi_Program_rows : BindN "rows" "Program.rows" st_Program_rows ["self"] := fun _ _ _ _ _ _ us hl => match us, hl with | [_], _ => rfl
abbrev st_steps : Stmt := top 15
theorem sc_steps : FnScope ["program", "language", "builder"] ["program", "language"] (defScope st_steps) := ⟨rfl, rfl, rfl, by decide +kernel, rfl, by decide +kernel, by decide +kernel⟩
theorem bi_steps : BindN "steps" "steps" st_steps ["program", "language"] := fun _ _ _ _ _ _ us hl => match us, hl with | [_, _], _ => rfl
abbrev st_Language_call : Stmt := inr 25 4
theorem sc_Language_call : FnScope ["self", "program"] ["self", "program"] (defScope st_Language_call) := ⟨rfl, rfl, rfl, by decide +kernel, rfl, by decide +kernel, by decide +kernel⟩
theorem bi_Language_call : BindN "__call__" "Language.__call__" st_Language_call ["self", "program"] := fun _ _ _ _ _ _ us hl => match us, hl with | [_, _], _ => rfl
abbrev st_l_order : Stmt := top 76
theorem sc_l_order : FnScope ["_law_side", "_law_count"] ["_law_side", "_law_count"] (defScope st_l_order) := ⟨rfl, rfl, rfl, by decide +kernel, rfl, by decide +kernel, by decide +kernel⟩
theorem bi_l_order : BindN "_law_order" "_law_order" st_l_order ["_law_side", "_law_count"] := fun _ _ _ _ _ _ us hl => match us, hl with | [_, _], _ => rfl
abbrev st_l_box : Stmt := top 77
theorem sc_l_box : FnScope ["_law_st", "_law_kind", "_law_tail"] ["_law_st", "_law_kind", "_law_tail"] (defScope st_l_box) := ⟨rfl, rfl, rfl, by decide +kernel, rfl, by decide +kernel, by decide +kernel⟩
theorem bi_l_box : BindN "_law_box" "_law_box" st_l_box ["_law_st", "_law_kind", "_law_tail"] := fun _ _ _ _ _ _ us hl => match us, hl with | [_, _, _], _ => rfl
abbrev st_l_call : Stmt := top 78
theorem sc_l_call : FnScope ["_law_st", "_law_sign", "_law_boxes"] ["_law_st", "_law_sign", "_law_boxes"] (defScope st_l_call) := ⟨rfl, rfl, rfl, by decide +kernel, rfl, by decide +kernel, by decide +kernel⟩
theorem bi_l_call : BindN "_law_call" "_law_call" st_l_call ["_law_st", "_law_sign", "_law_boxes"] := fun _ _ _ _ _ _ us hl => match us, hl with | [_, _, _], _ => rfl
abbrev st_l_work : Stmt := top 80
theorem sc_l_work : FnScope ["_law_st", "_law_value_here", "_law_boxes"] ["_law_st", "_law_value_here"] (defScope st_l_work) := ⟨rfl, rfl, rfl, by decide +kernel, rfl, by decide +kernel, by decide +kernel⟩
theorem bi_l_work : BindN "_law_work" "_law_work" st_l_work ["_law_st", "_law_value_here"] := fun _ _ _ _ _ _ us hl => match us, hl with | [_, _], _ => rfl
abbrev st_l_work_all : Stmt := top 79
theorem sc_l_work_all : FnScope ["_law_st", "_law_values", "_law_found", "_law_at"] ["_law_st", "_law_values"] (defScope st_l_work_all) := ⟨rfl, rfl, rfl, by decide +kernel, rfl, by decide +kernel, by decide +kernel⟩
theorem bi_l_work_all : BindN "_law_work_all" "_law_work_all" st_l_work_all ["_law_st", "_law_values"] := fun _ _ _ _ _ _ us hl => match us, hl with | [_, _], _ => rfl
abbrev st_l_find : Stmt := top 81
theorem sc_l_find : FnScope ["_law_st", "_law_place_here"] ["_law_st", "_law_place_here"] (defScope st_l_find) := ⟨rfl, rfl, rfl, by decide +kernel, rfl, by decide +kernel, by decide +kernel⟩
theorem bi_l_find : BindN "_law_find" "_law_find" st_l_find ["_law_st", "_law_place_here"] := fun _ _ _ _ _ _ us hl => match us, hl with | [_, _], _ => rfl
abbrev st_l_store : Stmt := top 83
theorem sc_l_store : FnScope ["_law_st", "_law_spot", "_law_box_here"] ["_law_st", "_law_spot", "_law_box_here"] (defScope st_l_store) := ⟨rfl, rfl, rfl, by decide +kernel, rfl, by decide +kernel, by decide +kernel⟩
theorem bi_l_store : BindN "_law_store" "_law_store" st_l_store ["_law_st", "_law_spot", "_law_box_here"] := fun _ _ _ _ _ _ us hl => match us, hl with | [_, _, _], _ => rfl
abbrev st_l_do_set : Stmt := top 84
theorem sc_l_do_set : FnScope ["_law_st", "_law_place_here", "_law_value_here", "_law_spot", "_law_box_here"] ["_law_st", "_law_place_here", "_law_value_here"] (defScope st_l_do_set) := ⟨rfl, rfl, rfl, by decide +kernel, rfl, by decide +kernel, by decide +kernel⟩
theorem bi_l_do_set : BindN "_law_do_set" "_law_do_set" st_l_do_set ["_law_st", "_law_place_here", "_law_value_here"] := fun _ _ _ _ _ _ us hl => match us, hl with | [_, _, _], _ => rfl
abbrev st_l_look : Stmt := top 82
theorem sc_l_look : FnScope ["_law_st", "_law_spot"] ["_law_st", "_law_spot"] (defScope st_l_look) := ⟨rfl, rfl, rfl, by decide +kernel, rfl, by decide +kernel, by decide +kernel⟩
theorem bi_l_look : BindN "_law_look" "_law_look" st_l_look ["_law_st", "_law_spot"] := fun _ _ _ _ _ _ us hl => match us, hl with | [_, _], _ => rfl
abbrev st_l_do_add : Stmt := top 85
theorem sc_l_do_add : FnScope ["_law_st", "_law_place_here", "_law_value_here", "_law_spot", "_law_old", "_law_box_here", "_law_deed"] ["_law_st", "_law_place_here", "_law_value_here"] (defScope st_l_do_add) := ⟨rfl, rfl, rfl, by decide +kernel, rfl, by decide +kernel, by decide +kernel⟩
theorem bi_l_do_add : BindN "_law_do_add" "_law_do_add" st_l_do_add ["_law_st", "_law_place_here", "_law_value_here"] := fun _ _ _ _ _ _ us hl => match us, hl with | [_, _, _], _ => rfl
abbrev st_l_due : Stmt := top 86
theorem sc_l_due : FnScope ["_law_choices_here", "_law_rows_here", "_law_st", "_law_row_here"] ["_law_choices_here", "_law_rows_here"] (defScope st_l_due) := ⟨rfl, rfl, rfl, by decide +kernel, rfl, by decide +kernel, by decide +kernel⟩
theorem bi_l_due : BindN "_law_due" "_law_due" st_l_due ["_law_choices_here", "_law_rows_here"] := fun _ _ _ _ _ _ us hl => match us, hl with | [_, _], _ => rfl
abbrev st_Language_init : Stmt := inr 25 0
theorem sc_Language_init : FnScope ["self", "parts", "single", "many", "adding", "stores", "exchanging", "given", "rank", "choice", "value"] ["self", "parts", "single", "many", "adding", "stores", "exchanging"] (defScope st_Language_init) := ⟨rfl, rfl, rfl, by decide +kernel, rfl, by decide +kernel, by decide +kernel⟩
abbrev st_l_language : Stmt := top 75
theorem sc_l_language : FnScope ["_law_choices_here"] ["_law_choices_here"] (defScope st_l_language) := ⟨rfl, rfl, rfl, by decide +kernel, rfl, by decide +kernel, by decide +kernel⟩
theorem bi_l_language : BindN "_law_language" "_law_language" st_l_language ["_law_choices_here"] := fun _ _ _ _ _ _ us hl => match us, hl with | [_], _ => rfl
abbrev st_law : Stmt := top 87
theorem sc_law : FnScope ["_law_script", "_law_bag_here", "_law_elders", "_law_turn", "_law_choices_here", "_law_others", "_law_room_here", "_law_rows_here", "_law_program", "_law_language_here", "_law_some", "_law_due_here", "_law_time", "_law_found"] ["_law_script"] (defScope st_law) := ⟨rfl, rfl, rfl, by decide +kernel, rfl, by decide +kernel, by decide +kernel⟩
theorem bi_law : BindN "law" "law" st_law ["_law_script"] := fun _ _ _ _ _ _ us hl => match us, hl with | [_], _ => rfl
def dd_as_tuples : Dfn := ⟨fun K => He.ga K "as_tuples", "as_tuples", "as_tuples", defArgs st_as_tuples, defBody st_as_tuples, defScope st_as_tuples, [], []⟩
def dd_values_in : Dfn := ⟨fun K => He.ga K "values_in", "values_in", "values_in", defArgs st_values_in, defBody st_values_in, defScope st_values_in, [], []⟩
def dd_places_in : Dfn := ⟨fun K => He.ga K "places_in", "places_in", "places_in", defArgs st_places_in, defBody st_places_in, defScope st_places_in, [], []⟩
def dd_parts_of : Dfn := ⟨fun K => He.ga K "parts_of", "parts_of", "parts_of", defArgs st_parts_of, defBody st_parts_of, defScope st_parts_of, [], []⟩
def dd_all_names : Dfn := ⟨fun K => He.ga K "all_names", "all_names", "all_names", defArgs st_all_names, defBody st_all_names, defScope st_all_names, [], []⟩
def dd_read_in : Dfn := ⟨fun K => He.ga K "read_in", "read_in", "read_in", defArgs st_read_in, defBody st_read_in, defScope st_read_in, [], []⟩
def dd_is_made_of : Dfn := ⟨fun K => He.ga K "is_made_of", "is_made_of", "is_made_of", defArgs st_is_made_of, defBody st_is_made_of, defScope st_is_made_of, [], []⟩
def dd_is_helper : Dfn := ⟨fun K => He.ga K "is_helper", "is_helper", "is_helper", defArgs st_is_helper, defBody st_is_helper, defScope st_is_helper, [], []⟩
def dd_unset_in : Dfn := ⟨fun K => He.ga K "unset_in", "unset_in", "unset_in", defArgs st_unset_in, defBody st_unset_in, defScope st_unset_in, [], []⟩
def dd_has_form : Dfn := ⟨fun K => He.ga K "has_form", "has_form", "has_form", defArgs st_has_form, defBody st_has_form, defScope st_has_form, [], []⟩
def dd_is_list_of : Dfn := ⟨fun K => He.ga K "is_list_of", "is_list_of", "is_list_of", defArgs st_is_list_of, defBody st_is_list_of, defScope st_is_list_of, [], []⟩
def dd_is_own_name : Dfn := ⟨fun K => He.ga K "is_own_name", "is_own_name", "is_own_name", defArgs st_is_own_name, defBody st_is_own_name, defScope st_is_own_name, [], []⟩
def dd_is_name : Dfn := ⟨fun K => He.ga K "is_name", "is_name", "is_name", defArgs st_is_name, defBody st_is_name, defScope st_is_name, [], []⟩
def dd_is_word : Dfn := ⟨fun K => He.ga K "is_word", "is_word", "is_word", defArgs st_is_word, defBody st_is_word, defScope st_is_word, [], []⟩
def dd_is_sign : Dfn := ⟨fun K => He.ga K "is_sign", "is_sign", "is_sign", defArgs st_is_sign, defBody st_is_sign, defScope st_is_sign, [], []⟩
def dd_is_expression : Dfn := ⟨fun K => He.ga K "is_expression", "is_expression", "is_expression", defArgs st_is_expression, defBody st_is_expression, defScope st_is_expression, [], []⟩
def dd_is_place : Dfn := ⟨fun K => He.ga K "is_place", "is_place", "is_place", defArgs st_is_place, defBody st_is_place, defScope st_is_place, [], []⟩
def dd_is_many : Dfn := ⟨fun K => He.ga K "is_many", "is_many", "is_many", defArgs st_is_many, defBody st_is_many, defScope st_is_many, [], []⟩
def dd_is_simple_row : Dfn := ⟨fun K => He.ga K "is_simple_row", "is_simple_row", "is_simple_row", defArgs st_is_simple_row, defBody st_is_simple_row, defScope st_is_simple_row, [], []⟩
def dd_is_any : Dfn := ⟨fun K => He.ga K "is_any", "is_any", "is_any", defArgs st_is_any, defBody st_is_any, defScope st_is_any, [], []⟩
def dd_is_operand : Dfn := ⟨fun K => He.ga K "is_operand", "is_operand", "is_operand", defArgs st_is_operand, defBody st_is_operand, defScope st_is_operand, [], []⟩
def dd_blocks_of : Dfn := ⟨fun K => He.ga K "blocks_of", "blocks_of", "blocks_of", defArgs st_blocks_of, defBody st_blocks_of, defScope st_blocks_of, [], []⟩
def dd_fault_in : Dfn := ⟨fun K => He.ga K "fault_in", "fault_in", "fault_in", defArgs st_fault_in, defBody st_fault_in, defScope st_fault_in, [], []⟩
def dd_first_fault : Dfn := ⟨fun K => He.ga K "first_fault", "first_fault", "first_fault", defArgs st_first_fault, defBody st_first_fault, defScope st_first_fault, [], []⟩
def dd_helper_number : Dfn := ⟨fun K => He.ga K "helper_number", "helper_number", "helper_number", defArgs st_helper_number, defBody st_helper_number, defScope st_helper_number, [], []⟩
def dd_Program_init : Dfn := ⟨fun K => He.ma K (He.ga K "Program") "__init__", "__init__", "Program.__init__", defArgs st_Program_init, defBody st_Program_init, defScope st_Program_init, [], []⟩
def dd_l_bag : Dfn := ⟨fun K => He.ga K "_law_bag", "_law_bag", "_law_bag", defArgs st_l_bag, defBody st_l_bag, defScope st_l_bag, [], []⟩
def dd_l_take : Dfn := ⟨fun K => He.ga K "_law_take", "_law_take", "_law_take", defArgs st_l_take, defBody st_l_take, defScope st_l_take, [], []⟩
def dd_l_names : Dfn := ⟨fun K => He.ga K "_law_names", "_law_names", "_law_names", defArgs st_l_names, defBody st_l_names, defScope st_l_names, [], []⟩
def dd_l_signs : Dfn := ⟨fun K => He.ga K "_law_signs", "_law_signs", "_law_signs", defArgs st_l_signs, defBody st_l_signs, defScope st_l_signs, [], []⟩
def dd_l_words : Dfn := ⟨fun K => He.ga K "_law_words", "_law_words", "_law_words", defArgs st_l_words, defBody st_l_words, defScope st_l_words, [], []⟩
def dd_l_room : Dfn := ⟨fun K => He.ga K "_law_room", "_law_room", "_law_room", defArgs st_l_room, defBody st_l_room, defScope st_l_room, [], []⟩
def dd_l_one : Dfn := ⟨fun K => He.ga K "_law_one", "_law_one", "_law_one", defArgs st_l_one, defBody st_l_one, defScope st_l_one, [], []⟩
def dd_l_operand : Dfn := ⟨fun K => He.ga K "_law_operand", "_law_operand", "_law_operand", defArgs st_l_operand, defBody st_l_operand, defScope st_l_operand, [], []⟩
def dd_l_value : Dfn := ⟨fun K => He.ga K "_law_value", "_law_value", "_law_value", defArgs st_l_value, defBody st_l_value, defScope st_l_value, [], []⟩
def dd_l_place : Dfn := ⟨fun K => He.ga K "_law_place", "_law_place", "_law_place", defArgs st_l_place, defBody st_l_place, defScope st_l_place, [], []⟩
def dd_l_row : Dfn := ⟨fun K => He.ga K "_law_row", "_law_row", "_law_row", defArgs st_l_row, defBody st_l_row, defScope st_l_row, [], []⟩
def dd_l_rows : Dfn := ⟨fun K => He.ga K "_law_rows", "_law_rows", "_law_rows", defArgs st_l_rows, defBody st_l_rows, defScope st_l_rows, [], []⟩
def dd_l_choices : Dfn := ⟨fun K => He.ga K "_law_choices", "_law_choices", "_law_choices", defArgs st_l_choices, defBody st_l_choices, defScope st_l_choices, [], []⟩
def dd_Builder_init : Dfn := ⟨fun K => He.ma K (He.ga K "Builder") "__init__", "__init__", "Builder.__init__", defArgs st_Builder_init, defBody st_Builder_init, defScope st_Builder_init, [], []⟩
def dd_Builder_fresh : Dfn := ⟨fun K => He.ma K (He.ga K "Builder") "fresh", "fresh", "Builder.fresh", defArgs st_Builder_fresh, defBody st_Builder_fresh, defScope st_Builder_fresh, [], []⟩
def dd_Builder_call : Dfn := ⟨fun K => He.ma K (He.ga K "Builder") "call", "call", "Builder.call", defArgs st_Builder_call, defBody st_Builder_call, defScope st_Builder_call, [], []⟩
def dd_Builder_read : Dfn := ⟨fun K => He.ma K (He.ga K "Builder") "read", "read", "Builder.read", defArgs st_Builder_read, defBody st_Builder_read, defScope st_Builder_read, [], []⟩
def dd_Builder_get_cell : Dfn := ⟨fun K => He.ma K (He.ga K "Builder") "get_cell", "get_cell", "Builder.get_cell", defArgs st_Builder_get_cell, defBody st_Builder_get_cell, defScope st_Builder_get_cell, [], []⟩
def dd_Builder_read_place : Dfn := ⟨fun K => He.ma K (He.ga K "Builder") "read_place", "read_place", "Builder.read_place", defArgs st_Builder_read_place, defBody st_Builder_read_place, defScope st_Builder_read_place, [], []⟩
def dd_Builder_in_parts : Dfn := ⟨fun K => He.ma K (He.ga K "Builder") "in_parts", "in_parts", "Builder.in_parts", defArgs st_Builder_in_parts, defBody st_Builder_in_parts, defScope st_Builder_in_parts, [], []⟩
def dd_Builder_work_all : Dfn := ⟨fun K => He.ma K (He.ga K "Builder") "work_all", "work_all", "Builder.work_all", defArgs st_Builder_work_all, defBody st_Builder_work_all, defScope st_Builder_work_all, [], []⟩
def dd_Builder_find_place : Dfn := ⟨fun K => He.ma K (He.ga K "Builder") "find_place", "find_place", "Builder.find_place", defArgs st_Builder_find_place, defBody st_Builder_find_place, defScope st_Builder_find_place, [], []⟩
def dd_Builder_work : Dfn := ⟨fun K => He.ma K (He.ga K "Builder") "work", "work", "Builder.work", defArgs st_Builder_work, defBody st_Builder_work, defScope st_Builder_work, [], []⟩
def dd_Builder_write_place : Dfn := ⟨fun K => He.ma K (He.ga K "Builder") "write_place", "write_place", "Builder.write_place", defArgs st_Builder_write_place, defBody st_Builder_write_place, defScope st_Builder_write_place, [], []⟩
def dd_build_set : Dfn := ⟨fun K => He.ga K "build_set", "build_set", "build_set", defArgs st_build_set, defBody st_build_set, defScope st_build_set, [], []⟩
def dd_build_add : Dfn := ⟨fun K => He.ga K "build_add", "build_add", "build_add", defArgs st_build_add, defBody st_build_add, defScope st_build_add, [], []⟩
def dd_build_rows : Dfn := ⟨fun K => He.ga K "build_rows", "build_rows", "build_rows", defArgs st_build_rows, defBody st_build_rows, defScope st_build_rows, [], []⟩
def dd_Program_rows : Dfn := ⟨fun K => He.ma K (He.ga K "Program") "rows", "rows", "Program.rows", defArgs st_Program_rows, defBody st_Program_rows, defScope st_Program_rows, [], []⟩
def dd_steps : Dfn := ⟨fun K => He.ga K "steps", "steps", "steps", defArgs st_steps, defBody st_steps, defScope st_steps, [], []⟩
def dd_Language_call : Dfn := ⟨fun K => He.ma K (He.ga K "Language") "__call__", "__call__", "Language.__call__", defArgs st_Language_call, defBody st_Language_call, defScope st_Language_call, [], []⟩
def dd_l_order : Dfn := ⟨fun K => He.ga K "_law_order", "_law_order", "_law_order", defArgs st_l_order, defBody st_l_order, defScope st_l_order, [], []⟩
def dd_l_box : Dfn := ⟨fun K => He.ga K "_law_box", "_law_box", "_law_box", defArgs st_l_box, defBody st_l_box, defScope st_l_box, [], []⟩
def dd_l_call : Dfn := ⟨fun K => He.ga K "_law_call", "_law_call", "_law_call", defArgs st_l_call, defBody st_l_call, defScope st_l_call, [], []⟩
def dd_l_work : Dfn := ⟨fun K => He.ga K "_law_work", "_law_work", "_law_work", defArgs st_l_work, defBody st_l_work, defScope st_l_work, [], []⟩
def dd_l_work_all : Dfn := ⟨fun K => He.ga K "_law_work_all", "_law_work_all", "_law_work_all", defArgs st_l_work_all, defBody st_l_work_all, defScope st_l_work_all, [], []⟩
def dd_l_find : Dfn := ⟨fun K => He.ga K "_law_find", "_law_find", "_law_find", defArgs st_l_find, defBody st_l_find, defScope st_l_find, [], []⟩
def dd_l_store : Dfn := ⟨fun K => He.ga K "_law_store", "_law_store", "_law_store", defArgs st_l_store, defBody st_l_store, defScope st_l_store, [], []⟩
def dd_l_do_set : Dfn := ⟨fun K => He.ga K "_law_do_set", "_law_do_set", "_law_do_set", defArgs st_l_do_set, defBody st_l_do_set, defScope st_l_do_set, [], []⟩
def dd_l_look : Dfn := ⟨fun K => He.ga K "_law_look", "_law_look", "_law_look", defArgs st_l_look, defBody st_l_look, defScope st_l_look, [], []⟩
def dd_l_do_add : Dfn := ⟨fun K => He.ga K "_law_do_add", "_law_do_add", "_law_do_add", defArgs st_l_do_add, defBody st_l_do_add, defScope st_l_do_add, [], []⟩
def dd_l_due : Dfn := ⟨fun K => He.ga K "_law_due", "_law_due", "_law_due", defArgs st_l_due, defBody st_l_due, defScope st_l_due, [], []⟩
def dd_Language_init : Dfn := ⟨fun K => He.ma K (He.ga K "Language") "__init__", "__init__", "Language.__init__", defArgs st_Language_init, defBody st_Language_init, defScope st_Language_init, [], [("parts", (.str "left")), ("single", (.str "last")), ("many", (.str "each")), ("adding", (.str "early")), ("stores", (.str "left")), ("exchanging", (.str "once"))]⟩
def dd_l_language : Dfn := ⟨fun K => He.ga K "_law_language", "_law_language", "_law_language", defArgs st_l_language, defBody st_l_language, defScope st_l_language, [], []⟩
def dd_law : Dfn := ⟨fun K => He.ga K "law", "law", "law", defArgs st_law, defBody st_law, defScope st_law, [], []⟩
def fn : List Dfn := [dd_as_tuples, dd_values_in, dd_places_in, dd_parts_of, dd_all_names, dd_read_in, dd_is_made_of, dd_is_helper, dd_unset_in, dd_has_form, dd_is_list_of, dd_is_own_name, dd_is_name, dd_is_word, dd_is_sign, dd_is_expression, dd_is_place, dd_is_many, dd_is_simple_row, dd_is_any, dd_is_operand, dd_blocks_of, dd_fault_in, dd_first_fault, dd_helper_number, dd_Program_init, dd_l_bag, dd_l_take, dd_l_names, dd_l_signs, dd_l_words, dd_l_room, dd_l_one, dd_l_operand, dd_l_value, dd_l_place, dd_l_row, dd_l_rows, dd_l_choices, dd_Builder_init, dd_Builder_fresh, dd_Builder_call, dd_Builder_read, dd_Builder_get_cell, dd_Builder_read_place, dd_Builder_in_parts, dd_Builder_work_all, dd_Builder_find_place, dd_Builder_work, dd_Builder_write_place, dd_build_set, dd_build_add, dd_build_rows, dd_Program_rows, dd_steps, dd_Language_call, dd_l_order, dd_l_box, dd_l_call, dd_l_work, dd_l_work_all, dd_l_find, dd_l_store, dd_l_do_set, dd_l_look, dd_l_do_add, dd_l_due, dd_Language_init, dd_l_language, dd_law]
def tt_VALUES : He.Tab := (fun K => He.ga K "VALUES", ["parts", "single", "many", "adding", "stores", "exchanging"])
def ts : List He.Tab := [tt_VALUES]
def fa0 : List Ft := [.free "abs", .free "bool", .free "dict", .free "enumerate", .free "int", .free "isinstance", .free "len", .free "list", .free "range", .free "repr", .free "str", .free "tuple", .free "zip", .con "DIGITS" c_DIGITS, .con "LETTERS" c_LETTERS, .con "RESERVED" c_RESERVED, .con "CHOICES" c_CHOICES, .glo "as_tuples", .glo "values_in", .glo "places_in"]
def fa1 : List Ft := [.glo "parts_of", .glo "all_names", .glo "read_in", .glo "is_made_of", .glo "is_helper", .glo "unset_in", .glo "has_form", .glo "is_list_of", .glo "is_own_name", .glo "is_name", .glo "is_word", .glo "is_sign", .glo "is_expression", .glo "is_place", .glo "is_many", .glo "is_simple_row", .glo "is_any", .glo "is_operand", .glo "blocks_of", .glo "fault_in"]
def fa2 : List Ft := [.glo "first_fault", .glo "helper_number", .glo "_law_bag", .glo "_law_take", .glo "_law_names", .glo "_law_signs", .glo "_law_words", .glo "_law_room", .glo "_law_one", .glo "_law_operand", .glo "_law_value", .glo "_law_place", .glo "_law_row", .glo "_law_rows", .glo "_law_choices", .glo "build_set", .glo "build_add", .glo "build_rows", .glo "steps", .glo "_law_order"]
def fa3 : List Ft := [.glo "_law_box", .glo "_law_call", .glo "_law_work", .glo "_law_work_all", .glo "_law_find", .glo "_law_store", .glo "_law_do_set", .glo "_law_look", .glo "_law_do_add", .glo "_law_due", .glo "_law_language", .glo "law", .glo "Builder", .glo "Language", .glo "Program", faB (.cls "Builder"), faB (.cls "Language"), faB (.cls "Program"), faB (.mkr "Builder"), faB (.mkr "Language")]
def fa4 : List Ft := [faB (.mkr "Program"), faB (.noat "Builder" "boxes"), faB (.noat "Builder" "made"), faB (.noat "Builder" "rules"), faB (.noat "Language" "adding"), faB (.noat "Language" "exchanging"), faB (.noat "Language" "given"), faB (.noat "Language" "many"), faB (.noat "Language" "parts"), faB (.noat "Language" "rank"), faB (.noat "Language" "single"), faB (.noat "Language" "stores"), faB (.noat "Program" "held"), fnmB "Language" "__call__", faB (.meth "Builder" "fresh"), faB (.meth "Builder" "call"), faB (.meth "Builder" "read"), faB (.meth "Builder" "get_cell"), faB (.meth "Builder" "read_place"), faB (.meth "Builder" "in_parts")]
def fa5 : List Ft := [faB (.meth "Builder" "work_all"), faB (.meth "Builder" "find_place"), faB (.meth "Builder" "work"), faB (.meth "Builder" "write_place"), faB (.meth "Program" "rows"), faB (.meth "Language" "__call__"), .glo "VALUES", tabB "VALUES" t_VALUES]
def fa : List Ft := fa0 ++ fa1 ++ fa2 ++ fa3 ++ fa4 ++ fa5
def loose0 : List PySem.Str := ["_wall", "Builder", "build_set", "build_add", "build_exchange", "build_targets", "split_up", "build_test", "aim", "build_if", "build_while", "build_rows", "build_chain", "build_many", "steps", "FoundError", "BadRow", "Unset", "NoRow", "BadChoice"]
def loose1 : List PySem.Str := ["CHOICES", "VALUES", "Language", "LETTERS", "DIGITS", "RESERVED", "is_made_of", "is_own_name", "is_helper", "is_name", "is_word", "is_sign", "is_list_of", "has_form", "is_expression", "is_operand", "is_place", "is_many", "is_simple_row", "is_any"]
def loose2 : List PySem.Str := ["blocks_of", "fault_in", "first_fault", "as_tuples", "parts_of", "all_names", "helper_number", "blocks_in", "all_rows", "places_in", "values_in", "read_in", "unset_in", "is_index", "Program", "_law_bag", "_law_take", "_law_one", "_law_names", "_law_signs"]
def loose3 : List PySem.Str := ["_law_words", "_law_room", "_law_operand", "_law_value", "_law_place", "_law_row", "_law_many", "_law_rows", "_law_choices", "_law_language", "_law_order", "_law_box", "_law_call", "_law_work_all", "_law_work", "_law_find", "_law_look", "_law_store", "_law_do_set", "_law_do_add"]
def loose4 : List PySem.Str := ["_law_due"]
def loose : List PySem.Str := loose0 ++ loose1 ++ loose2 ++ loose3 ++ loose4
abbrev R : PySem.W.OpenRow := PySem.W.OpenLaw.row PySem.Challenge.rw_foundtwice_k24_steps_of_set_and_add
abbrev hk : PySem.W.Hook := hookA 900 fa fn ts
def ob (s : PySem.W.SharedT) : AlN := obsNA 900 fa fn ts (HandSHeadRun.getT s)
theorem ob_eq (s : PySem.W.SharedT) : ob s = hk.obs s.abs := obsNA_eq (HandSHeadRun.getT_eq s)
theorem map3 {A B C D : Type} {x : Option A} {f : A → B} {g : A → C} {h : A → D} {a : B} {b : C} {c : D} (h1 : x.map f = some a) (h2 : x.map g = some b) (h3 : x.map h = some c) : x.map (fun s => (f s, g s, h s)) = some (a, b, c) := by
  cases x with
  | none => cases h1
  | some s =>
    injection h1 with h1
    injection h2 with h2
    injection h3 with h3
    show some (f s, g s, h s) = _
    rw [h1, h2, h3]
open PySem.W PySem.Calls PyProof.Rows in
theorem run_t1 (w : World) (os : OsState) : (HandSHeadRun.endF (HandSHeadRun.stepQ (HandSHeadRun.denQ HandSHeadRun.tabQ) R.prog (wHab w "special-get-raises" true)) 20000 R.prog (wHab w "special-get-raises" true) os).map (fun s => HandSHeadRun.looksF R.prog (boot_heap ((wHab w "special-get-raises" true)).params) s.abs) = some true := by
  kernel_rfl
open PySem.W PySem.Calls PyProof.Rows in
theorem run_t2 (w : World) (os : OsState) : (HandSHeadRun.endF (HandSHeadRun.stepQ (HandSHeadRun.denQ HandSHeadRun.tabQ) R.prog (wHab w "special-get-raises" true)) 20000 R.prog (wHab w "special-get-raises" true) os).map (fun s => HandSHeadRun.seenQ (PySem.W.view R.prog [87]) loose (importedModules R.prog.main.body) (fun s => xlAt (PySem.W.view R.prog [87]) [] s && recOk R.toRowW.records s) s.abs) = some (openGood (PySem.W.view R.prog [87]) loose) := by
  kernel_rfl
open PySem.W PySem.Calls PyProof.Rows in
theorem run_t3 (w : World) (os : OsState) : (HandSHeadRun.endF (HandSHeadRun.stepQ (HandSHeadRun.denQ HandSHeadRun.tabQ) R.prog (wHab w "special-get-raises" true)) 20000 R.prog (wHab w "special-get-raises" true) os).map (fun s => ob s) = some (hk.val (wHab w "special-get-raises" true)) := by
  kernel_rfl
theorem run_t (w : World) : HandSHeadRun.RunEq R (PySem.W.view R.prog [87]) hk ob 20000 loose (wHab w "special-get-raises" true) := fun os => map3 (run_t1 w os) (run_t2 w os) (run_t3 w os)
open PySem.W PySem.Calls PyProof.Rows in
theorem run_f1 (w : World) (os : OsState) : (HandSHeadRun.endF (HandSHeadRun.stepQ (HandSHeadRun.denQ HandSHeadRun.tabQ) R.prog (wHab w "special-get-raises" false)) 20000 R.prog (wHab w "special-get-raises" false) os).map (fun s => HandSHeadRun.looksF R.prog (boot_heap ((wHab w "special-get-raises" false)).params) s.abs) = some true := by
  kernel_rfl
open PySem.W PySem.Calls PyProof.Rows in
theorem run_f2 (w : World) (os : OsState) : (HandSHeadRun.endF (HandSHeadRun.stepQ (HandSHeadRun.denQ HandSHeadRun.tabQ) R.prog (wHab w "special-get-raises" false)) 20000 R.prog (wHab w "special-get-raises" false) os).map (fun s => HandSHeadRun.seenQ (PySem.W.view R.prog [87]) loose (importedModules R.prog.main.body) (fun s => xlAt (PySem.W.view R.prog [87]) [] s && recOk R.toRowW.records s) s.abs) = some (openGood (PySem.W.view R.prog [87]) loose) := by
  kernel_rfl
open PySem.W PySem.Calls PyProof.Rows in
theorem run_f3 (w : World) (os : OsState) : (HandSHeadRun.endF (HandSHeadRun.stepQ (HandSHeadRun.denQ HandSHeadRun.tabQ) R.prog (wHab w "special-get-raises" false)) 20000 R.prog (wHab w "special-get-raises" false) os).map (fun s => ob s) = some (hk.val (wHab w "special-get-raises" false)) := by
  kernel_rfl
theorem run_f (w : World) : HandSHeadRun.RunEq R (PySem.W.view R.prog [87]) hk ob 20000 loose (wHab w "special-get-raises" false) := fun os => map3 (run_f1 w os) (run_f2 w os) (run_f3 w os)
theorem run (w : World) : HandSHeadRun.RunEq R (PySem.W.view R.prog [87]) hk ob 20000 loose w := by_habit2 (P := fun w => HandSHeadRun.RunEq R (PySem.W.view R.prog [87]) hk ob 20000 loose w) "special-get-raises" w run_t run_f
end Row
namespace DL
open PySem L2
/-- plain things: a text is short -/
def PlK : Dv → Prop
  | .non => True
  | .bl _ => True
  | .int _ => True
  | .str x => x.length ≤ 16777216
  | .tup _ => True
  | .lst _ => True
  | .dic _ => True
  | _ => False
def onS (p : Str → Bool) : Dv → Bool
  | .str x => p x
  | _ => false
def Dt : Nat → Dv → Prop
  | 0, .tup _ => False
  | 0, .lst _ => False
  | n + 1, .tup l => l.length ≤ 10000000 ∧ ∀ x ∈ l, Dt n x
  | n + 1, .lst l => l.length ≤ 10000000 ∧ ∀ x ∈ l, Dt n x
  | _, d => PlK d
def sq : Dv → Option (List Dv)
  | .tup l => some l
  | .lst l => some l
  | _ => none
theorem Dt.plk {n : Nat} {d : Dv} (h : Dt n d) : PlK d := by
  cases d with
  | tup l => trivial
  | lst l => trivial
  | _ => cases n <;> exact h
theorem Dt.up {n : Nat} : ∀ {d : Dv}, Dt n d → Dt (n + 1) d := by
  induction n with
  | zero =>
    intro d h
    cases d with
    | tup l => exact h.elim
    | lst l => exact h.elim
    | _ => exact h
  | succ n ih =>
    intro d h
    cases d with
    | tup l => exact ⟨h.1, fun x hx => ih (h.2 x hx)⟩
    | lst l => exact ⟨h.1, fun x hx => ih (h.2 x hx)⟩
    | _ => exact h
theorem Dt.seq {n : Nat} {d : Dv} {l : List Dv} (h : Dt n d) (e : sq d = some l) : ∃ m, n = m + 1 ∧ l.length ≤ 10000000 ∧ ∀ x ∈ l, Dt m x := by
  cases d with
  | tup l' =>
    cases e
    cases n with
    | zero => exact h.elim
    | succ n => exact ⟨n, rfl, h.1, h.2⟩
  | lst l' =>
    cases e
    cases n with
    | zero => exact h.elim
    | succ n => exact ⟨n, rfl, h.1, h.2⟩
  | _ => cases e
/-- any sequence -/
theorem sq_cases {d : Dv} (h : PlK d) : (sq d = none ∧ ∀ S, isiD S [d, .tup [.ty "tuple", .ty "list"]] = some (.bl false, S)) ∨ ∃ l, sq d = some l ∧ (d = .tup l ∨ d = .lst l) := by
  cases d with
  | tup l => exact .inr ⟨l, rfl, .inl rfl⟩
  | lst l => exact .inr ⟨l, rfl, .inr rfl⟩
  | hdl k => exact h.elim
  | glo k => exact h.elim
  | ty k => exact h.elim
  | obj _ _ => exact h.elim
  | rol _ => exact h.elim
  | _ => exact .inl ⟨rfl, fun S => by simp⟩
def isStr : Dv → Option Str
  | .str x => some x
  | _ => none
theorem tf_len : ∀ (ts : List Str) (k : Nat) (acc : Str), (textFrom k acc ts).length ≤ acc.length + piled ts
  | [], k, acc => by simp [textFrom, piled]
  | t :: r, k, acc => by
    have ih := tf_len r (k + 1) (acc ++ (if k > 0 then ", " else "" : String) ++ t)
    have e : (textFrom k acc (t :: r)) = textFrom (k + 1) (acc ++ (if k > 0 then ", " else "" : String) ++ t) r := rfl
    rw [e]
    have e2 : ((if k > 0 then ", " else "" : String) : Str).length ≤ 2 := by
      split
      · exact Nat.le_of_eq (by decide +kernel)
      · exact Nat.le_trans (Nat.le_of_eq (by decide +kernel)) (Nat.zero_le 2)
    rw [strLen_append, strLen_append] at ih
    have e3 : piled (t :: r) = t.length + 2 + piled r := by simp [piled]
    omega
theorem lt_len (ts : List Str) : (listText ts).length ≤ piled ts + 2 := by
  unfold listText
  rw [strLen_append]
  have := tf_len ts 0 "["
  have e1 : ("[" : Str).length = 1 := by decide +kernel
  have e2 : ("]" : Str).length = 1 := by decide +kernel
  omega
theorem tt_len (ts : List Str) : (tupleText ts).length ≤ piled ts + 3 := by
  unfold tupleText
  rw [strLen_append, strLen_append]
  have e1 : ("(" : Str).length = 1 := by decide +kernel
  have e2 : ((if ts.length == 1 then ",)" else ")" : String) : Str).length ≤ 2 := by
    split
    · exact Nat.le_of_eq (by decide +kernel)
    · exact Nat.le_trans (Nat.le_of_eq (by decide +kernel)) (show 1 ≤ 2 by decide)
  by_cases h : ts = []
  · subst h
    have : (Str.join ", " []).length = 0 := by decide +kernel
    omega
  · have := join_length_add ts h
    omega
/-- d is read as p in every store -/
def Rs (d : Dv) (p : PyData) : Prop := ∀ m S, toQ (deref m S d) = some p
/-- a leaf -/
def Leaf (d : Dv) : Prop := PlK d ∧ sq d = none ∧ ∃ p, Rs d p ∧ p.showable = true ∧ p.depth ≤ 1 ∧ p.shown.length ≤ 100
mutual
inductive Tr : Nat → Nat → Dv → Prop
  | leaf {n w : Nat} {d : Dv} : Leaf d → 100 ≤ w → Tr n w d
  | seq {n w v : Nat} {d : Dv} {l : List Dv} : (d = .tup l ∨ d = .lst l) → TrL n w l → w + 3 ≤ v → Tr (n + 1) v d
inductive TrL : Nat → Nat → List Dv → Prop
  | nil {n w : Nat} : TrL n w []
  | cons {n w v u : Nat} {d : Dv} {l : List Dv} : Tr n w d → TrL n v l → w + v + 2 ≤ u → TrL n u (d :: l)
end
theorem TrL.len : ∀ {n w : Nat} {l : List Dv}, TrL n w l → 2 * l.length ≤ w
  | _, _, _, .nil => Nat.zero_le _
  | _, _, _, .cons _ t h => by
    have := t.len
    simp only [List.length_cons]
    omega
mutual
theorem Tr.mono : ∀ {n w : Nat} {d : Dv} {n' w' : Nat}, Tr n w d → n ≤ n' → w ≤ w' → Tr n' w' d
  | _, _, _, _, _, .leaf h h1, _, h2 => .leaf h (Nat.le_trans h1 h2)
  | n + 1, _, _, n' + 1, _, .seq hd t h, h1, h2 => .seq hd (t.mono (Nat.le_of_succ_le_succ h1) (Nat.le_refl _)) (Nat.le_trans h h2)
theorem TrL.mono : ∀ {n w : Nat} {l : List Dv} {n' w' : Nat}, TrL n w l → n ≤ n' → w ≤ w' → TrL n' w' l
  | _, _, _, _, _, .nil, _, _ => .nil
  | _, _, _, _, _, .cons h t hw, h1, h2 => .cons (h.mono h1 (Nat.le_refl _)) (t.mono h1 (Nat.le_refl _)) (Nat.le_trans hw h2)
end
theorem TrL.app : ∀ {n w v : Nat} {l m : List Dv}, TrL n w l → TrL n v m → TrL n (w + v) (l ++ m)
  | _, _, _, _, _, .nil, h => h.mono (Nat.le_refl _) (by omega)
  | _, _, _, _, _, .cons a t hw, h => .cons a (t.app h) (by omega)
theorem leaf_dt {n : Nat} {d : Dv} (h : Leaf d) : Dt n d := by
  obtain ⟨h1, h2, _⟩ := h
  cases d with
  | tup l => cases h2
  | lst l => cases h2
  | _ => cases n <;> exact h1
mutual
theorem Tr.dt : ∀ {n w : Nat} {d : Dv}, Tr n w d → w ≤ 20000000 → Dt n d
  | _, _, _, .leaf h _, _ => leaf_dt h
  | _ + 1, v, _, .seq (w := w) (l := l) hd t hw, h => by
    have hl := t.len
    have h2 : l.length ≤ 10000000 := by omega
    have hx := t.dt (by omega)
    rcases hd with rfl | rfl
    · exact ⟨h2, hx⟩
    · exact ⟨h2, hx⟩
theorem TrL.dt : ∀ {n w : Nat} {l : List Dv}, TrL n w l → w ≤ 20000000 → ∀ x ∈ l, Dt n x
  | _, _, _, .nil, _ => fun _ h => nomatch h
  | _, _, _, .cons h t hw, hu => fun x hx => by
    rcases List.mem_cons.mp hx with e | hm
    · rw [e]; exact h.dt (by omega)
    · exact t.dt (by omega) x hm
end
theorem toQs_cons {d : Dv} {l : List Dv} {p : PyData} {ps : List PyData} (h1 : toQ d = some p) (h2 : toQs l = some ps) : toQs (d :: l) = some (p :: ps) := by
  unfold toQs
  rw [h1, h2]
  rfl
mutual
theorem Tr.rs : ∀ {n w : Nat} {d : Dv}, Tr n w d → ∃ p, Rs d p ∧ p.showable = true ∧ p.depth ≤ n + 1 ∧ p.shown.length ≤ w
  | _, _, _, .leaf ⟨_, _, p, h1, h2, h3, h4⟩ hw => ⟨p, h1, h2, by omega, by omega⟩
  | n + 1, v, _, .seq (w := w) (l := l) hd t hw => by
    obtain ⟨ps, h1, h2, h3, h4⟩ := t.rs
    rcases hd with rfl | rfl
    · refine ⟨.tuple ps, fun m S => ?_, by simpa [PyData.showable] using h2, by simp only [PyData.depth]; omega, ?_⟩
      · cases m with
        | zero => show (toQs l).map PyData.tuple = _; have := h1 0 S; rw [show l.map (deref 0 S) = l by rw [show deref 0 S = id from rfl, List.map_id]] at this; rw [this]; rfl
        | succ m => show (toQs (l.map (deref m S))).map PyData.tuple = _; rw [h1 m S]; rfl
      · have := tt_len (PyData.shownAll ps)
        simp only [PyData.shown]
        omega
    · refine ⟨.list ps, fun m S => ?_, by simpa [PyData.showable] using h2, by simp only [PyData.depth]; omega, ?_⟩
      · cases m with
        | zero => show (toQs l).map PyData.list = _; have := h1 0 S; rw [show l.map (deref 0 S) = l by rw [show deref 0 S = id from rfl, List.map_id]] at this; rw [this]; rfl
        | succ m => show (toQs (l.map (deref m S))).map PyData.list = _; rw [h1 m S]; rfl
      · have := lt_len (PyData.shownAll ps)
        simp only [PyData.shown]
        omega
theorem TrL.rs : ∀ {n w : Nat} {l : List Dv}, TrL n w l → ∃ ps, (∀ m S, toQs (l.map (deref m S)) = some ps) ∧ PyData.showableAll ps = true ∧ PyData.depthAll ps ≤ n + 1 ∧ piled (PyData.shownAll ps) ≤ w
  | _, _, _, .nil => ⟨[], fun _ _ => rfl, rfl, Nat.zero_le _, Nat.zero_le _⟩
  | _, _, _, .cons h t hw => by
    obtain ⟨p, h1, h2, h3, h4⟩ := h.rs
    obtain ⟨ps, k1, k2, k3, k4⟩ := t.rs
    refine ⟨p :: ps, fun m S => ?_, by simp [PyData.showableAll, h2, k2], by simp only [PyData.depthAll]; omega, ?_⟩
    · rw [List.map_cons]; exact toQs_cons (h1 m S) (k1 m S)
    · simp only [PyData.shownAll]
      rw [piled_cons]
      omega
end
theorem Tr.repr {n w : Nat} {d : Dv} (h : Tr n w d) (hn : n ≤ 50) (hw : w ≤ 16000000) : ∃ x, ∀ S, reprD S [d] = some (.str x, S) := by
  obtain ⟨p, h1, h2, h3, h4⟩ := h.rs
  refine ⟨p.shown, fun S => ?_⟩
  have e : toQ (res S d) = some p := h1 40 S
  unfold reprD
  simp only [e, Option.bind_some]
  rw [if_pos]
  simp only [Bool.and_eq_true, decide_eq_true_eq]
  exact ⟨⟨h2, by omega⟩, by rw [sizeLine_eq]; omega⟩
theorem atI_r {γ : Type} {l : List γ} {r : Int} (h0 : 0 ≤ r) (h1 : r < l.length) : ∃ d, atI l r = some d ∧ d ∈ l := by
  have hr : r.toNat < l.length := by omega
  exact ⟨l[r.toNat], by unfold atI; rw [ixN_ok h0 h1]; simp [hr], List.getElem_mem hr⟩
theorem at0 (d : Dv) (r : List Dv) : atI (d :: r) 0 = some d := by unfold atI; rw [ixN_ok (by omega) (by simp only [List.length_cons]; omega)]; rfl
end DL
namespace DL
open PySem L2
def bagOb (c0 c1 c2 : Int) (cells : List Int) : Ob := .lst [.int c0, .int c1, .int c2, .lst (cells.map Dv.int)]
def BagOk (o : Ob) : Prop := ∃ (c0 c1 c2 : Int) (cells : List Int), o = bagOb c0 c1 c2 cells ∧ 0 ≤ c0 ∧ 0 ≤ c1 ∧ c1 < 2147483647 ∧ 0 ≤ c2 ∧ ∀ c ∈ cells, 0 ≤ c
def BagAt (S : Sto) (b : Nat) : Prop := ∃ o, S[b]? = some o ∧ BagOk o
theorem take_ok (m : Nat) {S : Sto} {b : Nat} {n : Int} (hB : BagAt S b) (hn : 0 < n) (hn2 : n < 1073741824) : ∃ r o, calls (m + 1) .l_take S [.hdl b, .int n] = .ok (.int r) (S.set b o) ∧ 0 ≤ r ∧ r < n ∧ BagOk o := by
  obtain ⟨o, h, c0, c1, c2, cells, rfl, k0, k1, k2, k3, k4⟩ := hB
  have hset : ∀ x : Ob, (S.set b x)[b]? = some x := fun x => by rw [List.getElem?_set, if_pos rfl, if_pos (List.getElem?_eq_some_iff.mp h).1]
  have nl : (0 : Int) ≤ c2 + 1 := by omega
  have hm : ∀ x : Int, 0 ≤ x % n ∧ x % n < n := fun x => ⟨Int.emod_nonneg _ (by omega), Int.emod_lt_of_pos _ hn⟩
  have hp : ∀ x : Int, 0 ≤ x % 2147483647 ∧ x % 2147483647 < 2147483647 := fun x => ⟨Int.emod_nonneg _ (by decide), Int.emod_lt_of_pos _ (by decide)⟩
  have hd : ∀ x : Int, 0 ≤ x → 0 ≤ x / n := fun x hx => Int.ediv_nonneg hx (by omega)
  unfold bagOb at h
  by_cases h0 : c0 = 0
  · subst h0
    have mul1 : -(2 ^ 64) < c1 ∧ c1 < 2 ^ 64 := by omega
    have cell : ∃ c : Int, 0 ≤ c ∧ ((c2 < (cells.length : Int) ∧ atI (cells.map Dv.int) c2 = some (.int c)) ∨ (¬ c2 < (cells.length : Int) ∧ c = 0)) := by
      by_cases hl : c2 < (cells.length : Int)
      · have hl2 : c2.toNat < cells.length := by omega
        exact ⟨cells[c2.toNat], k4 _ (List.getElem_mem hl2), .inl ⟨hl, by unfold atI; rw [List.length_map, ixN_ok k3 hl]; simp [hl2]⟩⟩
      · exact ⟨0, Int.le_refl _, .inr ⟨hl, rfl⟩⟩
    obtain ⟨c, hc, hcell⟩ := cell
    by_cases hbig : 1000000000000000000 ≤ c
    · have c0p : (0 : Int) < c := by omega
      refine ⟨c % n, bagOb (c / n) ((c1 * 48271 + c % 2147483647 + 7919 * (c2 + 1)) % 2147483647) (c2 + 1) cells, ?_, (hm c).1, (hm c).2, _, _, _, _, rfl, hd c hc, (hp _).1, (hp _).2, nl, k4⟩
      unfold bagOb
      rcases hcell with ⟨hl, e⟩ | ⟨hl, e⟩
      · simp [ev_l_take, fb_l_take, op_mul_i, op_mod_i, op_fdiv_i, hn, hn2, ixN_ok, h, hl, hset, hbig, k3, c0p, mul1, e]
      · subst e
        omega
    · have key : ∃ c1' : Int, 0 ≤ c1' ∧ c1' < 2147483647 ∧ calls (m + 1) .l_take S [.hdl b, .int n] = .ok (.int (((((c1' + 1) * 39373 % 1000000007) * ((c1' + 1) * 39373 % 1000000007) % 998244353 * 30011) % 998244353) / 7 % n)) (S.set b (bagOb 0 c1' (c2 + 1) cells)) := by
        refine ⟨(c1 * 48271 + c % 2147483647 + 7919 * (c2 + 1)) % 2147483647, (hp _).1, (hp _).2, ?_⟩
        obtain ⟨q1, q2⟩ := hp (c1 * 48271 + c % 2147483647 + 7919 * (c2 + 1))
        have nbig : ¬ (1000000000000000000 ≤ c) := hbig
        rcases hcell with ⟨hl, e⟩ | ⟨hl, e⟩
        · unfold bagOb
          generalize hw : (c1 * 48271 + c % 2147483647 + 7919 * (c2 + 1)) % 2147483647 = w1 at *
          have m1 : -(2 ^ 64) < w1 + 1 ∧ w1 + 1 < 2 ^ 64 := by omega
          have m2 : -(2 ^ 64) < (w1 + 1) * 39373 % 1000000007 ∧ (w1 + 1) * 39373 % 1000000007 < 2 ^ 64 := by omega
          have m3 := fun S' : Sto => op_mul_i S' _ ((w1 + 1) * 39373 % 1000000007) (.inl m2)
          simp [ev_l_take, fb_l_take, op_mul_i, op_mod_i, op_fdiv_i, hn, hn2, ixN_ok, h, hl, hset, nbig, k3, mul1, e, hw, m1, m3]
        · subst e
          unfold bagOb
          generalize hw : (c1 * 48271 + (0 : Int) % 2147483647 + 7919 * (c2 + 1)) % 2147483647 = w1 at *
          have m1 : -(2 ^ 64) < w1 + 1 ∧ w1 + 1 < 2 ^ 64 := by omega
          have m2 : -(2 ^ 64) < (w1 + 1) * 39373 % 1000000007 ∧ (w1 + 1) * 39373 % 1000000007 < 2 ^ 64 := by omega
          have m3 := fun S' : Sto => op_mul_i S' _ ((w1 + 1) * 39373 % 1000000007) (.inl m2)
          have hw2 : (c1 * 48271 + 7919 * (c2 + 1)) % 2147483647 = w1 := by rw [← hw]; simp
          simp [ev_l_take, fb_l_take, op_mul_i, op_mod_i, op_fdiv_i, hn, hn2, ixN_ok, h, hl, hset, k3, mul1, hw2, m1, m3]
      obtain ⟨c1', w1, w2, e⟩ := key
      exact ⟨_, _, e, (hm _).1, (hm _).2, _, _, _, _, rfl, Int.le_refl _, w1, w2, nl, k4⟩
  · have h1 : 0 < c0 := by omega
    refine ⟨c0 % n, bagOb (c0 / n) c1 c2 cells, ?_, (hm c0).1, (hm c0).2, _, _, _, _, rfl, hd c0 k0, k1, k2, k3, k4⟩
    unfold bagOb
    simp [ev_l_take, fb_l_take, op_mul_i, op_mod_i, op_fdiv_i, hn, hn2, ixN_ok, h, h0, h1]
theorem cutG_map {α β : Type} (f : α → β) (l : List α) (lo hi : Option Int) : cutG (l.map f) lo hi = (cutG l lo hi).map f := by
  unfold cutG
  rw [List.length_map, List.map_take, List.map_drop]
theorem cutG_len {α : Type} (l : List α) (lo hi : Option Int) : (cutG l lo hi).length ≤ l.length := by
  unfold cutG
  rw [List.length_take, List.length_drop]
  omega
theorem lc_abs (x : Sl) (S : Sto) : ∀ ms : List Int, lcR (gN 1) tTrue (eCB absD (aCons (eVar 1) aNil)) [x, .no] (ms.map Dv.int) S = .ok ((ms.map fun m => if m < 0 then -m else m).map Dv.int) S
  | [] => rfl
  | m :: r => by
    simp [lcR, tTrue, lc_abs x S r]
theorem bag_ok (m : Nat) (S : Sto) (ns : List Int) (h : ns.length ≤ 63) : ∃ o, calls (m + 1) .l_bag S [.rol (ns.map .int)] = .ok (.hdl S.length) (S ++ [o]) ∧ BagOk o := by
  have hl : (List.map Dv.int ((cutG ns none (some 63)).map fun m => if m < 0 then -m else m)).length ≤ sizeLine := by
    rw [List.length_map, List.length_map]
    exact line_le _ (by have := cutG_len ns none (some 63); omega)
  refine ⟨bagOb 0 1234567891 0 ((cutG ns none (some 63)).map fun m => if m < 0 then -m else m), ?_, 0, 1234567891, 0, _, rfl, by decide, by decide, by decide, by decide, fun c hc => ?_⟩
  · unfold bagOb
    rw [List.map_map] at hl
    simp [ev_l_bag, fb_l_bag, cutG_map, lc_abs, kLcEnd_ok _ _ hl]
  · obtain ⟨m, _, rfl⟩ := List.mem_map.mp hc
    split <;> omega
theorem bag_at {o : Ob} (h : BagOk o) : BagAt [o] 0 := ⟨o, rfl, h⟩
theorem BagAt.lt {S : Sto} {b : Nat} (h : BagAt S b) : b < S.length := by obtain ⟨o, h, _⟩ := h; exact (List.getElem?_eq_some_iff.mp h).1
theorem BagAt.set {S : Sto} {b : Nat} {o : Ob} (h : BagAt S b) (ho : BagOk o) : BagAt (S.set b o) b := ⟨o, by rw [List.getElem?_set, if_pos rfl, if_pos h.lt], ho⟩
theorem BagAt.app {S : Sto} {b : Nat} {o : Ob} (h : BagAt S b) : BagAt (S ++ [o]) b := by
  obtain ⟨q, h1, h2⟩ := h
  exact ⟨q, by rw [List.getElem?_append_left (List.getElem?_eq_some_iff.mp h1).1]; exact h1, h2⟩
end DL
namespace DL
open PySem L2
def madeOf (x t : Str) : Bool := decide (0 < x.length ∧ x.length ≤ 8) && allC t x.cps.toList
def reserved : List Str := ["do", "if", "else", "while", "end"]
def letters : Str := "abcdefghijklmnopqrstuvwxyz"
def digits : Str := "0123456789"
def own (x : Str) : Bool := madeOf x letters && !reserved.contains x
theorem made_loop (n : Nat) (x t : Str) (S : Sto) : ∀ (cs : List Nat) (y : Sl), ∃ z, forR (gN 2) (fb_is_made_of_l0 (calls n)) (cs.map fun c => Dv.str ⟨#[c]⟩) [.va (.str x), .va (.str t), y] S =
    if allC t cs then .nx [.va (.str x), .va (.str t), z] S else .rt (.bl false) S
  | [], y => ⟨y, rfl⟩
  | c :: cs, y => by
    obtain ⟨z, ih⟩ := made_loop n x t S cs (.va (.str ⟨#[c]⟩))
    refine ⟨z, ?_⟩
    rw [allC_cons]
    cases h : hasC t c with
    | false => rw [List.map_cons, forR_rt (r := .bl false) (S1 := S) rfl (by simp [fb_is_made_of_l0, h])]; rfl
    | true => rw [List.map_cons, forR_nx (e2 := [.va (.str x), .va (.str t), .va (.str ⟨#[c]⟩)]) (S1 := S) rfl (by simp [fb_is_made_of_l0, h]), ih]; rfl
theorem made_ok (n : Nat) (x t : Str) (S : Sto) (hx : x.length ≤ 16777216) : calls (n + 1) .is_made_of S [.str x, .str t] = .ok (.bl (madeOf x t)) S := by
  unfold madeOf
  by_cases h0 : (0 : Int) < x.length
  · have h0' : 0 < x.length := by omega
    by_cases h8 : (x.length : Int) ≤ 8
    · have hd : decide (0 < x.length ∧ x.length ≤ 8) = true := by simp; omega
      obtain ⟨z, h⟩ := made_loop n x t S x.cps.toList .no
      have hs : strL x = x.cps.toList.map fun c => Dv.str ⟨#[c]⟩ := rfl
      rw [hd]
      cases ha : allC t x.cps.toList with
      | true => rw [ha, if_pos rfl] at h; simp [ev_is_made_of, fb_is_made_of, len_str', hx, h0', h8, hs, h]
      | false => rw [ha, if_neg Bool.false_ne_true] at h; simp [ev_is_made_of, fb_is_made_of, len_str', hx, h0', h8, hs, h]
    · have hd : decide (0 < x.length ∧ x.length ≤ 8) = false := by simp; omega
      rw [hd]
      simp [ev_is_made_of, fb_is_made_of, len_str', hx, h0', h8]
  · have hd : decide (0 < x.length ∧ x.length ≤ 8) = false := by simp; omega
    rw [hd]
    have h0' : ¬ 0 < x.length := by omega
    simp [ev_is_made_of, fb_is_made_of, len_str', hx, h0']
theorem made_no (n : Nat) (d : Dv) (t : Str) (S : Sto) (h : isiD S [d, .ty "str"] = some (.bl false, S)) : calls (n + 1) .is_made_of S [d, .str t] = .ok (.bl false) S := by
  simp [ev_is_made_of, fb_is_made_of, h]
def resvD : List Dv := [.str "do", .str "if", .str "else", .str "while", .str "end"]
def resv (x : Str) : Bool := inF (.str x) resvD
def ownN (x : Str) : Bool := madeOf x letters && !resv x
def sgnN (x : Str) : Bool := ownN x && !decide (x = "split")
def wrdN (x : Str) : Bool := madeOf x (letters ++ digits)
def hlpN (x : Str) : Bool := decide (2 ≤ x.length ∧ x.length ≤ 3) && decide (x.cps.toList[0]? = some 104) && allC digits (x.cps.toList.drop 1) && !decide (x.cps.toList[1]? = some 48)
def namN (x : Str) : Bool := ownN x || hlpN x
theorem made_d (n : Nat) (d : Dv) (t : Str) (S : Sto) (h : PlK d) : calls (n + 1) .is_made_of S [d, .str t] = .ok (.bl (onS (madeOf · t) d)) S := by
  cases d with
  | str x => exact made_ok n x t S h
  | hdl k => exact h.elim
  | glo k => exact h.elim
  | ty k => exact h.elim
  | obj _ _ => exact h.elim
  | rol _ => exact h.elim
  | _ => exact made_no n _ t S (by simp)
theorem ni_resv (x : Str) (S : Sto) : inD true S (.str x) c_RESERVED = some (.bl (!resv x), S) := rfl
theorem own_d (n : Nat) (d : Dv) (S : Sto) (h : PlK d) : calls (n + 2) .is_own_name S [d] = .ok (.bl (onS ownN d)) S := by
  have e := made_d n d letters S h
  cases d with
  | str x =>
    have e' : calls (n + 1) .is_made_of S [.str x, c_LETTERS] = .ok (.bl (madeOf x letters)) S := e
    cases hm : madeOf x letters <;> simp [ev_is_own_name, fb_is_own_name, e', hm, ni_resv, onS, ownN]
  | hdl k => exact h.elim
  | glo k => exact h.elim
  | ty k => exact h.elim
  | obj _ _ => exact h.elim
  | rol _ => exact h.elim
  | _ =>
    have e' : calls (n + 1) .is_made_of S [_, c_LETTERS] = .ok (.bl false) S := e
    simp [ev_is_own_name, fb_is_own_name, e', onS]
theorem sign_d (n : Nat) (d : Dv) (S : Sto) (h : PlK d) : calls (n + 3) .is_sign S [d] = .ok (.bl (onS sgnN d)) S := by
  have e := own_d n d S h
  cases d with
  | str x =>
    have e' : calls (n + 2) .is_own_name S [.str x] = .ok (.bl (ownN x)) S := e
    cases hm : ownN x <;> simp [ev_is_sign, fb_is_sign, e', hm, onS, sgnN]
  | hdl k => exact h.elim
  | glo k => exact h.elim
  | ty k => exact h.elim
  | obj _ _ => exact h.elim
  | rol _ => exact h.elim
  | _ =>
    have e' : calls (n + 2) .is_own_name S [_] = .ok (.bl false) S := e
    simp [ev_is_sign, fb_is_sign, e', onS]
theorem ld' (S : Sto) : addD S c_LETTERS c_DIGITS = some (.str (letters ++ digits), S) := by
  unfold c_LETTERS c_DIGITS
  exact op_add_s S _ _ (by decide +kernel)
theorem word_d (n : Nat) (d : Dv) (S : Sto) (h : PlK d) : calls (n + 2) .is_word S [d] = .ok (.bl (onS wrdN d)) S := by
  have e := made_d n d (letters ++ digits) S h
  simp [ev_is_word, fb_is_word, ld', e]
  cases d <;> rfl
theorem h_eq : ("h" : Str) = ⟨#[104]⟩ := by decide +kernel
theorem z_eq : ("0" : Str) = ⟨#[48]⟩ := by decide +kernel
theorem cut_1 (z : Str) : cutS z (some 1) none = ⟨(z.cps.toList.drop 1).toArray⟩ := by
  unfold cutS
  have e : HT.sIx z.length 0 (some 1) = min 1 z.length := HT.sIx_nat _ _ 1
  rw [e, HT.sIx_none]
  congr 1
  congr 1
  by_cases h : z.length = 0
  · have : z.cps.toList = [] := by simpa [Str.length] using h
    rw [this]; simp
  · have e : min 1 z.length = 1 := by omega
    rw [e, List.take_of_length_le]
    rw [List.length_drop]
    exact Nat.le_refl _
theorem cut_str (S : Sto) (z : Str) (h : z.length ≤ 16777216) : cutD S (.str z) (some 1) none = some (.str ⟨(z.cps.toList.drop 1).toArray⟩, S) := by
  unfold cutD
  simp only
  rw [if_pos (by rw [sizeLine_eq]; exact h), cut_1]
theorem ix_str (S : Sto) (z : Str) (i c : Nat) (h : z.length ≤ 16777216) (hc : z.cps.toList[i]? = some c) : ixD S (.str z) (.int i) = some (.str ⟨#[c]⟩, S) := by
  unfold ixD
  simp only
  rw [if_pos (by rw [sizeLine_eq]; exact h), atI_nat', hc]
  rfl
theorem helper_s (n : Nat) (x : Str) (S : Sto) (hx : x.length ≤ 16777216) : calls (n + 2) .is_helper S [.str x] = .ok (.bl (hlpN x)) S := by
  obtain ⟨⟨cs⟩⟩ := x
  have hl : (⟨⟨cs⟩⟩ : Str).length = cs.length := rfl
  have len := len_str' S ⟨⟨cs⟩⟩ hx
  rw [hl] at len hx
  unfold hlpN
  simp only [hl]
  by_cases h2 : 2 ≤ cs.length
  · by_cases h3 : cs.length ≤ 3
    · have hd : decide (2 ≤ cs.length ∧ cs.length ≤ 3) = true := by simp; omega
      have g2 : (2 : Int) ≤ (cs.length : Int) := by omega
      have g3 : (cs.length : Int) ≤ 3 := by omega
      match cs, h2, h3 with
      | a :: b :: r, h2, h3 =>
        have i0 := ix_str S ⟨⟨a :: b :: r⟩⟩ 0 a hx rfl
        have i1 := ix_str S ⟨⟨a :: b :: r⟩⟩ 1 b hx rfl
        have ct := cut_str S ⟨⟨a :: b :: r⟩⟩ hx
        have hm := made_ok n ⟨⟨b :: r⟩⟩ digits S (by show (b :: r).length ≤ _; simp only [List.length_cons] at h3 ⊢; omega)
        have hm2 : madeOf ⟨⟨b :: r⟩⟩ digits = allC digits (b :: r) := by
          unfold madeOf
          have : decide (0 < (⟨⟨b :: r⟩⟩ : Str).length ∧ (⟨⟨b :: r⟩⟩ : Str).length ≤ 8) = true := by
            show decide (0 < (b :: r).length ∧ (b :: r).length ≤ 8) = true
            simp only [List.length_cons] at h3 ⊢
            simp; omega
          rw [this]; rfl
        rw [hm2] at hm
        have hm3 : calls (n + 1) .is_made_of S [.str ⟨⟨b :: r⟩⟩, c_DIGITS] = .ok (.bl (allC digits (b :: r))) S := hm
        obtain ⟨m, em⟩ : ∃ m : Int, m = ((a :: b :: r).length : Int) := ⟨_, rfl⟩
        rw [← em] at len g2 g3
        have i0 : ixD S (.str ⟨⟨a :: b :: r⟩⟩) (.int 0) = some (.str ⟨#[a]⟩, S) := i0
        have i1 : ixD S (.str ⟨⟨a :: b :: r⟩⟩) (.int 1) = some (.str ⟨#[b]⟩, S) := i1
        have ct : cutD S (.str ⟨⟨a :: b :: r⟩⟩) (some 1) none = some (.str ⟨⟨b :: r⟩⟩, S) := ct
        rw [hd]
        clear hd
        by_cases ha : a = 104
        · subst ha
          cases hq : allC digits (b :: r) with
          | false => simp [ev_is_helper, fb_is_helper, len, g2, g3, i0, h_eq, ct, hm3, hq]
          | true =>
            by_cases hb : b = 48
            · subst hb; simp [ev_is_helper, fb_is_helper, len, g2, g3, i0, i1, h_eq, z_eq, ct, hm3, hq]
            · simp [ev_is_helper, fb_is_helper, len, g2, g3, i0, i1, h_eq, z_eq, ct, hm3, hq, hb]
        · simp [ev_is_helper, fb_is_helper, len, g2, g3, i0, h_eq, ha]
    · have hd : decide (2 ≤ cs.length ∧ cs.length ≤ 3) = false := by simp; omega
      have g2 : (2 : Int) ≤ (cs.length : Int) := by omega
      have g3 : ¬ (cs.length : Int) ≤ 3 := by omega
      rw [hd]
      simp [ev_is_helper, fb_is_helper, len, g2, g3]
  · have hd : decide (2 ≤ cs.length ∧ cs.length ≤ 3) = false := by simp; omega
    have g2 : ¬ (2 : Int) ≤ (cs.length : Int) := by omega
    rw [hd]
    simp [ev_is_helper, fb_is_helper, len, g2]
theorem helper_d (n : Nat) (d : Dv) (S : Sto) (h : PlK d) : calls (n + 2) .is_helper S [d] = .ok (.bl (onS hlpN d)) S := by
  cases d with
  | str x => exact helper_s n x S h
  | hdl k => exact h.elim
  | glo k => exact h.elim
  | ty k => exact h.elim
  | obj _ _ => exact h.elim
  | rol _ => exact h.elim
  | _ => simp [ev_is_helper, fb_is_helper, onS]
theorem name_d (n : Nat) (d : Dv) (S : Sto) (h : PlK d) : calls (n + 3) .is_name S [d] = .ok (.bl (onS namN d)) S := by
  have e1 := own_d n d S h
  have e2 := helper_d n d S h
  cases d with
  | str x =>
    have e1' : calls (n + 2) .is_own_name S [.str x] = .ok (.bl (ownN x)) S := e1
    have e2' : calls (n + 2) .is_helper S [.str x] = .ok (.bl (hlpN x)) S := e2
    cases hm : ownN x <;> simp [ev_is_name, fb_is_name, e1', e2', hm, onS, namN]
  | hdl k => exact h.elim
  | glo k => exact h.elim
  | ty k => exact h.elim
  | obj _ _ => exact h.elim
  | rol _ => exact h.elim
  | _ => simp [ev_is_name, fb_is_name, e1, e2, onS]
def lstE (p : Dv → Bool) (y : Dv) : Bool := match sq y with
  | some l => decide (l.length ≤ 4) && l.all p
  | none => false
def bodyE (p : Dv → Bool) (k : Str) : List Dv → Bool
  | [x] => if k = "name" then onS namN x else if k = "word" then onS wrdN x else false
  | [x, y] => if k = "call" then onS sgnN x && lstE p y else if k = "item" then p x && p y else false
  | [x, y, z] => if k = "slice" then p x && (p y && p z) else false
  | _ => false
def isE : Nat → Dv → Bool
  | 0, _ => false
  | n + 1, d => match sq d with
    | some (.str k :: r) => bodyE (isE n) k r
    | _ => false
theorem str_cases {d : Dv} (h : PlK d) : (∃ x, d = .str x) ∨ (isStr d = none ∧ ∀ S, isiD S [d, .ty "str"] = some (.bl false, S)) := by
  cases d with
  | str x => exact .inl ⟨x, rfl⟩
  | hdl k => exact h.elim
  | glo k => exact h.elim
  | ty k => exact h.elim
  | obj _ _ => exact h.elim
  | rol _ => exact h.elim
  | _ => exact .inr ⟨rfl, fun S => by simp⟩
def frm (l : List Dv) (k : Str) (j : Nat) : Bool := decide (l.length = j) && (match l with
  | .str y :: _ => decide (y = k)
  | _ => false)
theorem form_no (n : Nat) (d : Dv) (k : Str) (j : Int) (S : Sto) (h : isiD S [d, .tup [.ty "tuple", .ty "list"]] = some (.bl false, S)) : calls (n + 1) .has_form S [d, .str k, .int j] = .ok (.bl false) S := by
  simp [ev_has_form, fb_has_form, h]
theorem form_seq (n : Nat) (d : Dv) (l : List Dv) (k : Str) (j : Nat) (hj : 1 ≤ j) (S : Sto) (hd : d = .tup l ∨ d = .lst l) (hl : ∀ x ∈ l, PlK x) : calls (n + 1) .has_form S [d, .str k, .int j] = .ok (.bl (frm l k j)) S := by
  unfold frm
  by_cases hlen : l.length = j
  · have hli : (l.length : Int) = (j : Int) := by omega
    rw [decide_eq_true hlen]
    cases l with
    | nil => simp at hlen; omega
    | cons a r =>
      obtain ⟨m, em⟩ : ∃ m : Int, m = (j : Int) := ⟨_, rfl⟩
      rw [← em] at hli ⊢
      have hne : ¬ (m ≠ m) := fun z => z rfl
      have len1 : lenD S [.tup (a :: r)] = some (.int m, S) := by rw [len_tup, hli]
      have len2 : lenD S [.lst (a :: r)] = some (.int m, S) := by rw [len_lst, hli]
      rcases str_cases (hl a (List.mem_cons_self ..)) with ⟨x, rfl⟩ | ⟨h1, h2⟩
      · rcases hd with rfl | rfl
        · simp [ev_has_form, fb_has_form, len1, -len_tup]
        · simp [ev_has_form, fb_has_form, len2, -len_lst]
      · have ef : (match a :: r with | .str y :: _ => decide (y = k) | _ => false) = false := by
          cases a with
          | str x => cases h1
          | _ => rfl
        rw [ef]
        rcases hd with rfl | rfl
        · simp [ev_has_form, fb_has_form, len1, -len_tup, h2]
        · simp [ev_has_form, fb_has_form, len2, -len_lst, h2]
  · have hli : ¬ (l.length : Int) = (j : Int) := by omega
    rw [decide_eq_false hlen]
    rcases hd with rfl | rfl
    · simp [ev_has_form, fb_has_form, hli]
    · simp [ev_has_form, fb_has_form, hli]
theorem tb_expr (n : Nat) : tbOf (calls n) tbl "is_expression" = some (calls n .is_expression) := by
  simp only [tbl, tbOf, if_true]
theorem lof_loop (n : Nat) (S : Sto) (p : Dv → Bool) (y0 y1 y2 : Sl) : ∀ (l : List Dv) (y : Sl), (∀ x ∈ l, calls n .is_expression S [x] = .ok (.bl (p x)) S) →
    ∃ z, forR (gN 4) (fb_is_list_of_l0 (calls n)) l [y0, y1, y2, .va (.glo "is_expression"), y] S = if l.all p then .nx [y0, y1, y2, .va (.glo "is_expression"), z] S else .rt (.bl false) S
  | [], y, _ => ⟨y, rfl⟩
  | x :: l, y, h => by
    obtain ⟨z, ih⟩ := lof_loop n S p y0 y1 y2 l (.va x) fun a ha => h a (List.mem_cons_of_mem _ ha)
    have hx := h x (List.mem_cons_self ..)
    refine ⟨z, ?_⟩
    rw [List.all_cons]
    cases hp : p x with
    | false =>
      rw [hp] at hx
      rw [forR_rt (r := .bl false) (S1 := S) rfl (by simp [fb_is_list_of_l0, kCL_glo _ _ _ _ (tb_expr n), hx])]
      rfl
    | true =>
      rw [hp] at hx
      rw [forR_nx (e2 := [y0, y1, y2, .va (.glo "is_expression"), .va x]) (S1 := S) rfl (by simp [fb_is_list_of_l0, kCL_glo _ _ _ _ (tb_expr n), hx]), ih]
      rfl
theorem lof_seq (n : Nat) (S : Sto) (p : Dv → Bool) (d : Dv) (l : List Dv) (lo hi : Nat) (hd : d = .tup l ∨ d = .lst l) (h : ∀ x ∈ l, calls n .is_expression S [x] = .ok (.bl (p x)) S) :
    calls (n + 1) .is_list_of S [d, .int lo, .int hi, .glo "is_expression"] = .ok (.bl (decide (lo ≤ l.length ∧ l.length ≤ hi) && l.all p)) S := by
  obtain ⟨z, hz⟩ := lof_loop n S p (.va d) (.va (.int lo)) (.va (.int hi)) l .no h
  obtain ⟨a, ea⟩ : ∃ m : Int, m = (lo : Int) := ⟨_, rfl⟩
  obtain ⟨b, eb⟩ : ∃ m : Int, m = (hi : Int) := ⟨_, rfl⟩
  obtain ⟨m, em⟩ : ∃ m : Int, m = (l.length : Int) := ⟨_, rfl⟩
  rw [← ea, ← eb] at hz ⊢
  have len1 : lenD S [.tup l] = some (.int m, S) := by rw [len_tup, em]
  have len2 : lenD S [.lst l] = some (.int m, S) := by rw [len_lst, em]
  by_cases h1 : lo ≤ l.length
  · have g1 : a ≤ m := by omega
    by_cases h2 : l.length ≤ hi
    · have g2 : m ≤ b := by omega
      rw [decide_eq_true ⟨h1, h2⟩]
      cases ha : l.all p with
      | true => rw [ha, if_pos rfl] at hz; rcases hd with rfl | rfl <;> simp [ev_is_list_of, fb_is_list_of, len1, len2, -len_tup, -len_lst, g1, g2, hz]
      | false => rw [ha, if_neg Bool.false_ne_true] at hz; rcases hd with rfl | rfl <;> simp [ev_is_list_of, fb_is_list_of, len1, len2, -len_tup, -len_lst, g1, g2, hz]
    · have g2 : ¬ m ≤ b := by omega
      rw [decide_eq_false (fun z => h2 z.2)]
      rcases hd with rfl | rfl <;> simp [ev_is_list_of, fb_is_list_of, len1, len2, -len_tup, -len_lst, g1, g2]
  · have g1 : ¬ a ≤ m := by omega
    rw [decide_eq_false (fun z => h1 z.1)]
    rcases hd with rfl | rfl <;> simp [ev_is_list_of, fb_is_list_of, len1, len2, -len_tup, -len_lst, g1]
theorem lof_no (n : Nat) (S : Sto) (d : Dv) (lo hi : Int) (h : isiD S [d, .tup [.ty "tuple", .ty "list"]] = some (.bl false, S)) : calls (n + 1) .is_list_of S [d, .int lo, .int hi, .glo "is_expression"] = .ok (.bl false) S := by
  simp [ev_is_list_of, fb_is_list_of, h]
theorem cut_tl (a : Dv) (r : List Dv) : cutG (a :: r) (some 1) none = r := by
  unfold cutG
  have e : HT.sIx (a :: r).length 0 (some 1) = min 1 (a :: r).length := HT.sIx_nat _ _ 1
  rw [e, HT.sIx_none]
  simp only [List.length_cons]
  have e2 : min 1 (r.length + 1) = 1 := by omega
  rw [e2]
  simp
theorem frm2 (y : Str) (r : List Dv) (k : Str) (j : Nat) : frm (.str y :: r) k j = (decide (r.length + 1 = j) && decide (y = k)) := rfl
theorem expr_step (F : Nat) (S : Sto) (d : Dv) (b1 b2 b3 b4 b5 v : Bool) (h1 : calls F .has_form S [d, .str "name", .int 2] = .ok (.bl b1) S) (h2 : calls F .has_form S [d, .str "word", .int 2] = .ok (.bl b2) S)
    (h3 : calls F .has_form S [d, .str "call", .int 3] = .ok (.bl b3) S) (h4 : calls F .has_form S [d, .str "item", .int 3] = .ok (.bl b4) S) (h5 : calls F .has_form S [d, .str "slice", .int 4] = .ok (.bl b5) S)
    (H1 : b1 = true → ∃ x, ixD S d (.int 1) = some (x, S) ∧ calls F .is_name S [x] = .ok (.bl v) S)
    (H2 : b1 = false → b2 = true → ∃ x, ixD S d (.int 1) = some (x, S) ∧ calls F .is_word S [x] = .ok (.bl v) S)
    (H3 : b1 = false → b2 = false → b3 = true → ∃ x y s l, ixD S d (.int 1) = some (x, S) ∧ ixD S d (.int 2) = some (y, S) ∧ calls F .is_sign S [x] = .ok (.bl s) S ∧ calls F .is_list_of S [y, .int 0, .int 4, .glo "is_expression"] = .ok (.bl l) S ∧ v = (s && l))
    (H4 : b1 = false → b2 = false → b3 = false → (b4 || b5) = true → ∃ d' r, cutD S d (some 1) none = some (d', S) ∧ listD S [d'] = some (.lst r, S) ∧ calls F .is_list_of S [.lst r, .int 2, .int 3, .glo "is_expression"] = .ok (.bl v) S)
    (H5 : b1 = false → b2 = false → b3 = false → b4 = false → b5 = false → v = false) : calls (F + 1) .is_expression S [d] = .ok (.bl v) S := by
  cases b1 with
  | true => obtain ⟨x, e1, e2⟩ := H1 rfl; simp [ev_is_expression, fb_is_expression, h1, e1, e2]
  | false =>
    cases b2 with
    | true => obtain ⟨x, e1, e2⟩ := H2 rfl rfl; simp [ev_is_expression, fb_is_expression, h1, h2, e1, e2]
    | false =>
      cases b3 with
      | true =>
        obtain ⟨x, y, s, l, e1, e2, e3, e4, rfl⟩ := H3 rfl rfl rfl
        cases s <;> simp [ev_is_expression, fb_is_expression, h1, h2, h3, e1, e2, e3, e4]
      | false =>
        cases b4 with
        | true => obtain ⟨d', r, e1, e2, e3⟩ := H4 rfl rfl rfl rfl; simp [ev_is_expression, fb_is_expression, h1, h2, h3, h4, e1, e2, e3]
        | false =>
          cases b5 with
          | true => obtain ⟨d', r, e1, e2, e3⟩ := H4 rfl rfl rfl rfl; simp [ev_is_expression, fb_is_expression, h1, h2, h3, h4, h5, e1, e2, e3]
          | false => cases H5 rfl rfl rfl rfl rfl; simp [ev_is_expression, fb_is_expression, h1, h2, h3, h4, h5]
def hdE (p : Dv → Bool) : List Dv → Bool
  | .str k :: r => bodyE p k r
  | _ => false
theorem frm_no {a : Dv} (h : isStr a = none) (r : List Dv) (k : Str) (j : Nat) : frm (a :: r) k j = false := by
  unfold frm
  cases a with
  | str x => cases h
  | _ => simp
theorem hdE_no {p : Dv → Bool} {a : Dv} (h : isStr a = none) (r : List Dv) : hdE p (a :: r) = false := by
  cases a with
  | str x => cases h
  | _ => rfl
theorem hd_s (p : Dv → Bool) (k : Str) (r : List Dv) : hdE p (.str k :: r) = bodyE p k r := rfl
theorem bd1 (p : Dv → Bool) (k : Str) (x : Dv) : bodyE p k [x] = if k = "name" then onS namN x else if k = "word" then onS wrdN x else false := rfl
theorem bd2 (p : Dv → Bool) (k : Str) (x y : Dv) : bodyE p k [x, y] = if k = "call" then onS sgnN x && lstE p y else if k = "item" then p x && p y else false := rfl
theorem bd3 (p : Dv → Bool) (k : Str) (x y z : Dv) : bodyE p k [x, y, z] = if k = "slice" then p x && (p y && p z) else false := rfl
theorem wn : ¬ (("word" : Str) = "name") := by decide +kernel
theorem ic : ¬ (("item" : Str) = "call") := by decide +kernel
theorem expr_seq (g : Nat) (S : Sto) (p : Dv → Bool) (d : Dv) (l : List Dv) (hd : d = .tup l ∨ d = .lst l) (hp : ∀ x ∈ l, PlK x)
    (q1 : ∀ x ∈ l, calls (g + 2) .is_expression S [x] = .ok (.bl (p x)) S) (q2 : ∀ y ∈ l, ∀ ly, sq y = some ly → ∀ x ∈ ly, calls (g + 2) .is_expression S [x] = .ok (.bl (p x)) S) :
    calls (g + 2 + 1 + 1) .is_expression S [d] = .ok (.bl (hdE p l)) S := by
  have f : ∀ k (j : Nat), 1 ≤ j → calls (g + 2 + 1) .has_form S [d, .str k, .int j] = .ok (.bl (frm l k j)) S := fun k j hj => form_seq (g + 2) d l k j hj S hd hp
  refine expr_step (g + 2 + 1) S d _ _ _ _ _ _ (f "name" 2 (by decide)) (f "word" 2 (by decide)) (f "call" 3 (by decide)) (f "item" 3 (by decide)) (f "slice" 4 (by decide)) ?_ ?_ ?_ ?_ ?_
  all_goals clear f
  · intro h
    match l, hd, hp, h with
    | [], _, _, h => cases h
    | a :: r, hd, hp, h =>
      rcases str_cases (hp a (List.mem_cons_self ..)) with ⟨k, rfl⟩ | ⟨hn, _⟩
      · rw [frm2, Bool.and_eq_true, decide_eq_true_eq, decide_eq_true_eq] at h
        match r, hd, hp, h with
        | [x], hd, hp, h =>
          obtain ⟨_, rfl⟩ := h
          refine ⟨x, by rcases hd with rfl | rfl <;> simp, ?_⟩
          have e : hdE p [.str "name", x] = onS namN x := by rw [hd_s, bd1, if_pos rfl]
          rw [e]
          exact name_d g x S (hp x (by simp))
        | [], _, _, h => exact absurd h.1 (by decide)
        | _ :: _ :: r, _, _, h => exact absurd h.1 (by simp)
      · rw [frm_no hn] at h; cases h
  · intro _ h
    match l, hd, hp, h with
    | [], _, _, h => cases h
    | a :: r, hd, hp, h =>
      rcases str_cases (hp a (List.mem_cons_self ..)) with ⟨k, rfl⟩ | ⟨hn, _⟩
      · rw [frm2, Bool.and_eq_true, decide_eq_true_eq, decide_eq_true_eq] at h
        match r, hd, hp, h with
        | [x], hd, hp, h =>
          obtain ⟨_, rfl⟩ := h
          refine ⟨x, by rcases hd with rfl | rfl <;> simp, ?_⟩
          have e : hdE p [.str "word", x] = onS wrdN x := by
            rw [hd_s, bd1, if_neg wn, if_pos rfl]
          rw [e]
          exact word_d (g + 1) x S (hp x (by simp))
        | [], _, _, h => exact absurd h.1 (by decide)
        | _ :: _ :: r, _, _, h => exact absurd h.1 (by simp)
      · rw [frm_no hn] at h; cases h
  · intro _ _ h
    match l, hd, hp, h, q1, q2 with
    | [], _, _, h, _, _ => cases h
    | a :: r, hd, hp, h, q1, q2 =>
      rcases str_cases (hp a (List.mem_cons_self ..)) with ⟨k, rfl⟩ | ⟨hn, _⟩
      · rw [frm2, Bool.and_eq_true, decide_eq_true_eq, decide_eq_true_eq] at h
        match r, hd, hp, h, q1, q2 with
        | [x, y], hd, hp, h, q1, q2 =>
          obtain ⟨_, rfl⟩ := h
          refine ⟨x, y, onS sgnN x, lstE p y, by rcases hd with rfl | rfl <;> simp, by rcases hd with rfl | rfl <;> simp, sign_d g x S (hp x (by simp)), ?_, by rw [hd_s, bd2, if_pos rfl]⟩
          rcases sq_cases (hp y (by simp)) with ⟨e1, e2⟩ | ⟨ly, e1, e2⟩
          · unfold lstE; rw [e1]; exact lof_no _ S y 0 4 (e2 S)
          · unfold lstE; rw [e1]
            have e3 := lof_seq (g + 2) S p y ly 0 4 e2 (q2 y (by simp) ly e1)
            have e4 : decide (0 ≤ ly.length ∧ ly.length ≤ 4) = decide (ly.length ≤ 4) := by congr 1; apply propext; omega
            rw [e4] at e3
            exact e3
        | [], _, _, h, _, _ => exact absurd h.1 (by decide)
        | [_], _, _, h, _, _ => exact absurd h.1 (by simp)
        | _ :: _ :: _ :: r, _, _, h, _, _ => exact absurd h.1 (by simp)
      · rw [frm_no hn] at h; cases h
  · intro _ _ _ h
    match l, hd, hp, h, q1 with
    | [], _, _, h, _ => cases h
    | a :: r, hd, hp, h, q1 =>
      rcases str_cases (hp a (List.mem_cons_self ..)) with ⟨k, rfl⟩ | ⟨hn, _⟩
      · rw [frm2, frm2, Bool.or_eq_true, Bool.and_eq_true, Bool.and_eq_true, decide_eq_true_eq, decide_eq_true_eq, decide_eq_true_eq, decide_eq_true_eq] at h
        have ct : ∃ d', cutD S d (some 1) none = some (d', S) ∧ listD S [d'] = some (.lst r, S) := by
          rcases hd with rfl | rfl
          · exact ⟨.tup r, by rw [cut_tup, cut_tl], rfl⟩
          · exact ⟨.lst r, by rw [cut_lst, cut_tl], rfl⟩
        obtain ⟨d', ct, ls⟩ := ct
        have lo := lof_seq (g + 2) S p (.lst r) r 2 3 (.inr rfl) fun z hz => q1 z (List.mem_cons_of_mem _ hz)
        refine ⟨d', r, ct, ls, ?_⟩
        have e : (decide (2 ≤ r.length ∧ r.length ≤ 3) && r.all p) = hdE p (.str k :: r) := by
          rcases h with ⟨h1, rfl⟩ | ⟨h1, rfl⟩
          · match r, h1 with
            | [x, y], _ =>
              rw [hd_s, bd2, if_neg ic, if_pos rfl]
              simp
            | [], h1 => exact absurd h1 (by decide)
            | [_], h1 => exact absurd h1 (by simp)
            | _ :: _ :: _ :: r, h1 => exact absurd h1 (by simp)
          · match r, h1 with
            | [x, y, z], _ =>
              rw [hd_s, bd3, if_pos rfl]
              simp
            | [], h1 => exact absurd h1 (by decide)
            | [_], h1 => exact absurd h1 (by simp)
            | [_, _], h1 => exact absurd h1 (by simp)
            | _ :: _ :: _ :: _ :: r, h1 => exact absurd h1 (by simp)
        rw [← e]
        exact lo
      · rw [frm_no hn, frm_no hn] at h; cases h
  · intro h1 h2 h3 h4 h5
    match l, hp, h1, h2, h3, h4, h5 with
    | [], _, _, _, _, _, _ => rfl
    | a :: r, hp, h1, h2, h3, h4, h5 =>
      rcases str_cases (hp a (List.mem_cons_self ..)) with ⟨k, rfl⟩ | ⟨hn, _⟩
      · rw [frm2] at h1 h2 h3 h4 h5
        match r, h1, h2, h3, h4, h5 with
        | [], _, _, _, _, _ => rfl
        | [x], h1, h2, _, _, _ =>
          simp at h1 h2
          rw [hd_s, bd1, if_neg h1, if_neg h2]
        | [x, y], _, _, h3, h4, _ =>
          simp at h3 h4
          rw [hd_s, bd2, if_neg h3, if_neg h4]
        | [x, y, z], _, _, _, _, h5 =>
          simp at h5
          rw [hd_s, bd3, if_neg h5]
        | _ :: _ :: _ :: _ :: r, _, _, _, _, _ => rfl
      · exact hdE_no hn r
theorem isE_seq (n : Nat) {d : Dv} {l : List Dv} (h : sq d = some l) : isE (n + 1) d = hdE (isE n) l := by
  show (match sq d with | some (.str k :: r) => bodyE (isE n) k r | _ => false) = _
  rw [h]
  cases l with
  | nil => rfl
  | cons a r => cases a <;> rfl
theorem isE_no (n : Nat) {d : Dv} (h : sq d = none) : isE (n + 1) d = false := by
  show (match sq d with | some (.str k :: r) => bodyE (isE n) k r | _ => false) = _
  rw [h]
theorem expr_no (F : Nat) (S : Sto) (d : Dv) (h : isiD S [d, .tup [.ty "tuple", .ty "list"]] = some (.bl false, S)) : calls (F + 2) .is_expression S [d] = .ok (.bl false) S := by
  have f := fun k j => form_no F d k j S h
  refine expr_step (F + 1) S d _ _ _ _ _ _ (f "name" 2) (f "word" 2) (f "call" 3) (f "item" 3) (f "slice" 4) ?_ ?_ ?_ ?_ ?_
  · intro h; cases h
  · intro _ h; cases h
  · intro _ _ h; cases h
  · intro _ _ _ h; cases h
  · intros; rfl
theorem expr_ok : ∀ (n : Nat) (d : Dv) (F : Nat), Dt n d → 2 * n + 4 ≤ F → ∀ S, calls F .is_expression S [d] = .ok (.bl (isE (n + 1) d)) S := by
  intro n
  induction n with
  | zero =>
    intro d F h hF S
    obtain ⟨F', rfl⟩ : ∃ F', F = F' + 2 := ⟨F - 2, by omega⟩
    rcases sq_cases h.plk with ⟨h1, h2⟩ | ⟨l, h1, _⟩
    · rw [isE_no 0 h1]; exact expr_no F' S d (h2 S)
    · obtain ⟨k, hk, _⟩ := h.seq h1
      cases hk
  | succ n ih =>
    intro d F h hF S
    rcases sq_cases h.plk with ⟨h1, h2⟩ | ⟨l, h1, hd⟩
    · obtain ⟨F', rfl⟩ : ∃ F', F = F' + 2 := ⟨F - 2, by omega⟩
      rw [isE_no _ h1]; exact expr_no F' S d (h2 S)
    · obtain ⟨g, rfl⟩ : ∃ g, F = g + 2 + 1 + 1 := ⟨F - 4, by omega⟩
      obtain ⟨k, hk, hl, hx⟩ := h.seq h1
      cases hk
      rw [isE_seq _ h1]
      refine expr_seq g S (isE (n + 1)) d l hd (fun x z => (hx x z).plk) (fun x z => ih x _ (hx x z) (by omega) S) fun y hy ly e x z => ?_
      obtain ⟨k', hk', _, hz⟩ := (hx y hy).seq e
      subst hk'
      exact ih x _ (hz x z).up (by omega) S
end DL
namespace DL
open PySem L2
inductive Ex where
  | lf (w : Bool) (x : Str)
  | call (s : Str) (l : List Ex)
  | nd (sl : Bool) (l : List Ex)
def mkS (b : Bool) (l : List Dv) : Dv := if b then .lst l else .tup l
def lfS (w : Bool) : Str := if w then "word" else "name"
def ndS (sl : Bool) : Str := if sl then "slice" else "item"
mutual
def toD (b : Bool) : Ex → Dv
  | .lf w x => mkS b [.str (lfS w), .str x]
  | .call s l => mkS b [.str "call", .str s, mkS b (toDs b l)]
  | .nd sl l => mkS b (.str (ndS sl) :: toDs b l)
def toDs (b : Bool) : List Ex → List Dv
  | [] => []
  | e :: l => toD b e :: toDs b l
end
mutual
def nmsE : Ex → List Str
  | .lf w x => if w then [] else [x]
  | .call _ l => nmsL l
  | .nd _ l => nmsL l
def nmsL : List Ex → List Str
  | [] => []
  | e :: l => nmsE e ++ nmsL l
end
mutual
def htE : Ex → Nat
  | .lf _ _ => 0
  | .call _ l => htL l + 1
  | .nd _ l => htL l + 1
def htL : List Ex → Nat
  | [] => 0
  | e :: l => max (htE e) (htL l)
end
def ptE : Ex → List Ex
  | .lf _ _ => []
  | .call _ l => l
  | .nd _ l => l
theorem toDs_map (b : Bool) : ∀ l, toDs b l = l.map (toD b)
  | [] => rfl
  | e :: l => by show toD b e :: toDs b l = _; rw [toDs_map b l]; rfl
theorem k_cw : ¬ (("word" : Str) = "call") := by decide +kernel
theorem k_cn : ¬ (("name" : Str) = "call") := by decide +kernel
theorem k_ci : ¬ (("item" : Str) = "call") := by decide +kernel
theorem k_cs : ¬ (("slice" : Str) = "call") := by decide +kernel
theorem k_nw : ¬ (("word" : Str) = "name") := by decide +kernel
theorem k_nc : ¬ (("call" : Str) = "name") := by decide +kernel
theorem k_ni : ¬ (("item" : Str) = "name") := by decide +kernel
theorem k_ns : ¬ (("slice" : Str) = "name") := by decide +kernel
theorem in_is (k : Str) (S : Sto) : inD false S (.str k) (.tup [.str "item", .str "slice"]) = some (.bl (inF (.str k) [.str "item", .str "slice"]), S) := rfl
theorem i_w : inF (.str "word") [.str "item", .str "slice"] = false := by decide +kernel
theorem i_n : inF (.str "name") [.str "item", .str "slice"] = false := by decide +kernel
theorem i_i : inF (.str "item") [.str "item", .str "slice"] = true := by decide +kernel
theorem i_s : inF (.str "slice") [.str "item", .str "slice"] = true := by decide +kernel
theorem at1 (d x : Dv) (r : List Dv) : atI (d :: x :: r) 1 = some x := by unfold atI; rw [ixN_ok (by omega) (by simp only [List.length_cons]; omega)]; rfl
theorem at2 (d x y : Dv) (r : List Dv) : atI (d :: x :: y :: r) 2 = some y := by unfold atI; rw [ixN_ok (by omega) (by simp only [List.length_cons]; omega)]; rfl
theorem cut1 (d : Dv) (r : List Dv) : cutG (d :: r) (some 1) none = r := by
  unfold cutG
  have e : HT.sIx (d :: r).length 0 (some 1) = min 1 (d :: r).length := HT.sIx_nat _ _ 1
  have e2 : HT.sIx (d :: r).length (d :: r).length none = (d :: r).length := rfl
  rw [e, e2]
  have : min 1 (d :: r).length = 1 := by simp only [List.length_cons]; omega
  rw [this]
  simp
theorem parts_ok (f : Nat) (b : Bool) (e : Ex) (S : Sto) : calls (f + 1) .parts_of S [toD b e] = .ok (.tup (toDs b (ptE e))) S := by
  cases e with
  | lf w x =>
    cases w <;> cases b <;> simp [toD, mkS, lfS, ev_parts_of, fb_parts_of, at0, k_cw, k_cn, in_is, i_w, i_n, ptE, toDs]
  | call s l =>
    cases b <;> simp [toD, mkS, ev_parts_of, fb_parts_of, at0, at2, ptE]
  | nd sl l =>
    cases sl <;> cases b <;> simp [toD, mkS, ndS, ev_parts_of, fb_parts_of, at0, k_ci, k_cs, in_is, i_i, i_s, ptE, cut1]
mutual
def szE : Ex → Nat
  | .lf _ _ => 1
  | .call _ l => szL l + 1
  | .nd _ l => szL l + 1
def szL : List Ex → Nat
  | [] => 0
  | e :: l => szE e + szL l
end
theorem ht_mem : ∀ {l : List Ex} {e : Ex}, e ∈ l → htE e ≤ htL l
  | x :: l, e, h => by
    show _ ≤ max (htE x) (htL l)
    rcases List.mem_cons.mp h with rfl | h
    · exact Nat.le_max_left ..
    · exact Nat.le_trans (ht_mem h) (Nat.le_max_right ..)
theorem sz_mem : ∀ {l : List Ex} {e : Ex}, e ∈ l → szE e ≤ szL l
  | x :: l, e, h => by
    show _ ≤ szE x + szL l
    rcases List.mem_cons.mp h with rfl | h
    · omega
    · have := sz_mem h; omega
theorem sz_pt (e : Ex) : szL (ptE e) + 1 ≤ szE e := by
  cases e with
  | lf w x => exact Nat.le_refl 1
  | call s l => exact Nat.le_refl _
  | nd sl l => exact Nat.le_refl _
mutual
theorem nms_len : ∀ e, (nmsE e).length ≤ szE e
  | .lf w x => by cases w <;> simp [nmsE, szE]
  | .call s l => Nat.le_succ_of_le (nmsL_len l)
  | .nd sl l => Nat.le_succ_of_le (nmsL_len l)
theorem nmsL_len : ∀ l, (nmsL l).length ≤ szL l
  | [] => Nat.le_refl _
  | e :: l => by
    show (nmsE e ++ nmsL l).length ≤ szE e + szL l
    rw [List.length_append]
    exact Nat.add_le_add (nms_len e) (nmsL_len l)
end
theorem ext_ok {i : Nat} {l l' : List Dv} {e : Env} {S : Sto} (h : l.length + l'.length ≤ 16000000) : qOwnM extD i l e [.lst l'] S = .nx (e.set i (.ow (l ++ l'))) S := qOwnM_ext _ _ _ _ _ (by rw [sizeLine_eq]; omega)
theorem an_loop {f : Nat} {b : Bool} {S : Sto} {d : Dv} : ∀ (l : List Ex) (acc : List Dv) (s2 : Sl), (∀ e ∈ l, calls f .all_names S [toD b e] = .ok (.lst ((nmsE e).map .str)) S) → acc.length + szL l ≤ 16000000 →
    ∃ z, forR (gN 2) (fb_all_names_l0 (calls f)) (toDs b l) [.va d, .ow acc, s2] S = .nx [.va d, .ow (acc ++ (nmsL l).map .str), z] S
  | [], acc, s2, _, _ => ⟨s2, by simp [toDs, nmsL, forR_nil]⟩
  | e :: l, acc, s2, h, hs => by
    have he := h e (List.mem_cons_self ..)
    have hs' : acc.length + (szE e + szL l) ≤ 16000000 := hs
    have hn := nms_len e
    obtain ⟨z, hz⟩ := an_loop (f := f) (b := b) (S := S) (d := d) l (acc ++ (nmsE e).map .str) (.va (toD b e)) (fun x hx => h x (List.mem_cons_of_mem _ hx)) (by simp only [List.length_append, List.length_map]; omega)
    refine ⟨z, ?_⟩
    have hx : ∀ e2, qOwnM extD 1 acc e2 [.lst ((nmsE e).map .str)] S = .nx (e2.set 1 (.ow (acc ++ (nmsE e).map .str))) S := fun e2 => ext_ok (by simp only [List.length_map]; omega)
    show forR _ _ (toD b e :: toDs b l) _ _ = _
    rw [forR_nx rfl (e2 := [.va d, .ow (acc ++ (nmsE e).map .str), .va (toD b e)]) (S1 := S) (by simp [fb_all_names_l0, he, hx]), hz]
    show Out.nx [Sl.va d, .ow (acc ++ (nmsE e).map .str ++ (nmsL l).map .str), z] S = .nx [.va d, .ow (acc ++ (nmsE e ++ nmsL l).map .str), z] S
    rw [List.map_append, List.append_assoc]
theorem an_ok {b : Bool} : ∀ (f : Nat) (e : Ex), htE e + 2 ≤ f → szE e ≤ 16000000 → ∀ S, calls f .all_names S [toD b e] = .ok (.lst ((nmsE e).map .str)) S
  | 0, e, h, _, _ => by omega
  | f + 1, e, hf, hs, S => by
    have hp := parts_ok (f - 1) b e S
    rw [show f - 1 + 1 = f by omega] at hp
    cases e with
    | lf w x =>
      cases w
      · cases b <;> simp [toD, mkS, lfS, ev_all_names, fb_all_names, at0, at1, nmsE]
      · cases b <;> simp [toD, mkS, lfS, ptE, toDs] at hp <;> simp [toD, mkS, lfS, ev_all_names, fb_all_names, at0, at1, nmsE, k_nw, hp, forR, kFy, frzO]
    | call s l =>
      have ih := fun e (h : e ∈ l) => an_ok (b := b) f e (by have := ht_mem h; have : htL l + 1 + 2 ≤ f + 1 := hf; omega) (by have := sz_mem h; have : szL l + 1 ≤ 16000000 := hs; omega) S
      obtain ⟨z, hz⟩ := an_loop (d := toD b (.call s l)) l [] .no ih (by have : szL l + 1 ≤ 16000000 := hs; simp; omega)
      have hk : ixD S (toD b (.call s l)) (.int 0) = some (.str "call", S) := by cases b <;> simp [toD, mkS, at0]
      generalize toD b (.call s l) = d at *
      simp [ev_all_names, fb_all_names, hk, k_nc, hp, ptE, hz, nmsE, kFy, frzO]
    | nd sl l =>
      have ih := fun e (h : e ∈ l) => an_ok (b := b) f e (by have := ht_mem h; have : htL l + 1 + 2 ≤ f + 1 := hf; omega) (by have := sz_mem h; have : szL l + 1 ≤ 16000000 := hs; omega) S
      obtain ⟨z, hz⟩ := an_loop (d := toD b (.nd sl l)) l [] .no ih (by have : szL l + 1 ≤ 16000000 := hs; simp; omega)
      have hk : ixD S (toD b (.nd sl l)) (.int 0) = some (.str (ndS sl), S) := by cases b <;> simp [toD, mkS, at0]
      generalize toD b (.nd sl l) = d at *
      cases sl <;> simp [ev_all_names, fb_all_names, hk, ndS, k_ni, k_ns, hp, ptE, hz, nmsE, kFy, frzO]
end DL
namespace DL
open PySem L2
def LfS (x : Str) : Prop := Leaf (.str x) ∧ (PyData.str x).canLay0 = true
def nmP (x : Str) : Bool := ownN x && !hlpN x
def lfP (w : Bool) (x : Str) : Bool := if w then wrdN x else nmP x
mutual
def okE : Ex → Prop
  | .lf w x => LfS x ∧ lfP w x = true
  | .call s l => (LfS s ∧ sgnN s = true) ∧ l.length ≤ 4 ∧ okL l
  | .nd sl l => l.length = (if sl then 3 else 2) ∧ okL l
def okL : List Ex → Prop
  | [] => True
  | e :: l => okE e ∧ okL l
end
theorem leaf_str {x : Str} (h1 : x.length ≤ 16777216) (h2 : (reprText x).length ≤ 100) : Leaf (.str x) := ⟨h1, rfl, .str x, fun m S => by cases m <;> rfl, rfl, Nat.zero_le _, h2⟩
def strB (x : Str) : Bool := decide (x.length ≤ 16777216) && decide ((reprText x).length ≤ 100) && (PyData.str x).canLay0
theorem strB_ok {x : Str} (h : strB x = true) : LfS x := by
  simp only [strB, Bool.and_eq_true, decide_eq_true_eq] at h
  exact ⟨leaf_str h.1.1 h.1.2, h.2⟩
theorem kw_call : LfS "call" := strB_ok (by decide +kernel)
theorem kw_lf (w : Bool) : LfS (lfS w) := by cases w <;> exact strB_ok (by decide +kernel)
theorem kw_nd (w : Bool) : LfS (ndS w) := by cases w <;> exact strB_ok (by decide +kernel)
theorem mkS_or (b : Bool) (l : List Dv) : mkS b l = .tup l ∨ mkS b l = .lst l := by cases b <;> simp [mkS]
theorem sz_pos (e : Ex) : 1 ≤ szE e := by have := sz_pt e; omega
mutual
theorem trE (b : Bool) : ∀ e, okE e → Tr (2 * htE e + 1) (320 * szE e - 10) (toD b e)
  | .lf w x, h => .seq (w := 204) (mkS_or b _) (.cons (w := 100) (v := 102) (.leaf (kw_lf w).1 (Nat.le_refl 100)) (.cons (w := 100) (v := 0) (.leaf h.1.1 (Nat.le_refl 100)) .nil (by decide)) (by decide)) (by show 204 + 3 ≤ 320 * 1 - 10; decide)
  | .call s l, h => by
    have t := trL b l h.2.2
    have e1 : 2 * htE (.call s l) + 1 = 2 * (htL l + 1) + 1 := rfl
    have e2 : szE (.call s l) = szL l + 1 := rfl
    rw [e1, e2]
    refine .seq (n := 2 * htL l + 2) (w := 320 * szL l + 290) (mkS_or b _) (.cons (w := 100) (v := 320 * szL l + 180) (.leaf kw_call.1 (Nat.le_refl 100)) (.cons (w := 100) (v := 320 * szL l + 70) (.leaf h.1.1.1 (Nat.le_refl 100)) (.cons (w := 320 * szL l + 5) (v := 0) (.seq (n := 2 * htL l + 1) (mkS_or b _) t (by omega)) .nil (by omega)) (by omega)) (by omega)) (by omega)
  | .nd sl l, h => by
    have t := trL b l h.2
    have e1 : 2 * htE (.nd sl l) + 1 = 2 * (htL l + 1) + 1 := rfl
    have e2 : szE (.nd sl l) = szL l + 1 := rfl
    rw [e1, e2]
    exact .seq (n := 2 * htL l + 2) (w := 320 * szL l + 290) (mkS_or b _) (.cons (w := 100) (v := 320 * szL l) (.leaf (kw_nd sl).1 (Nat.le_refl 100)) (t.mono (by omega) (Nat.le_refl _)) (by omega)) (by omega)
theorem trL (b : Bool) : ∀ l, okL l → TrL (2 * htL l + 1) (320 * szL l) (toDs b l)
  | [], _ => .nil
  | e :: l, h => by
    have h1 := trE b e h.1
    have h2 := trL b l h.2
    have p := sz_pos e
    have e1 : htL (e :: l) = max (htE e) (htL l) := rfl
    have e2 : szL (e :: l) = szE e + szL l := rfl
    rw [e1, e2]
    have m1 := Nat.le_max_left (htE e) (htL l)
    have m2 := Nat.le_max_right (htE e) (htL l)
    exact .cons (h1.mono (by omega) (Nat.le_refl _)) (h2.mono (by omega) (Nat.le_refl _)) (by omega)
end
theorem op_add_l' (S : Sto) (l m : List Dv) (h : l.length + m.length ≤ 16777216) : addD S (.lst l) (.lst m) = some (.lst (l ++ m), S) := op_add_l S l m (by rw [sizeLine_eq]; exact h)
def TakeF (f b : Nat) : Prop := ∀ S, BagAt S b → ∀ n : Int, 0 < n → n < 1073741824 → ∃ r o, calls f .l_take S [.hdl b, .int n] = .ok (.int r) (S.set b o) ∧ 0 ≤ r ∧ r < n ∧ BagOk o
theorem takeF (f b : Nat) : TakeF (f + 1) b := fun S h n h1 h2 => take_ok f h h1 h2
theorem takeF' {f : Nat} (b : Nat) (h : 1 ≤ f) : TakeF f b := by
  obtain ⟨g, rfl⟩ : ∃ g, f = g + 1 := ⟨f - 1, by omega⟩
  exact takeF g b
theorem one_ok {f b : Nat} (T : TakeF f b) {S : Sto} {l : List Dv} (hB : BagAt S b) (h0 : l ≠ []) (h1 : l.length < 1000000) : ∃ d o, calls (f + 1) .l_one S [.hdl b, .lst l] = .ok d (S.set b o) ∧ d ∈ l ∧ BagOk o := by
  have hl : 0 < l.length := List.length_pos_iff.mpr h0
  obtain ⟨r, o, e, r0, r1, ho⟩ := T S hB l.length (by omega) (by omega)
  obtain ⟨d, hd, hm⟩ := atI_r r0 r1
  exact ⟨d, o, by simp [ev_l_one, fb_l_one, e, hd], hm, ho⟩
/-- a menu: some short texts -/
def Menu (p : Str → Bool) (m : List Dv) : Prop := m ≠ [] ∧ m.length ≤ 1000 ∧ ∀ d ∈ m, ∃ x, d = .str x ∧ LfS x ∧ p x = true
def nmL : List Dv := [.str "a", .str "b", .str "h", .str "i", .str "x", .str "y", .str "ab", .str "doit", .str "ifs", .str "ends", .str "whiles", .str "elsee", .str "hhhhhhhh", .str "zzzzzzzz"]
def sgL : List Dv := [.str "f", .str "g", .str "h", .str "t", .str "add", .str "fs", .str "gone", .str "dod", .str "splits", .str "cutcut", .str "fill", .str "cut"]
def wdL : List Dv := [.str "k", .str "u", .str "no", .str "0", .str "10", .str "noo", .str "k9", .str "zzzzzzz9"]
def dB (p : Str → Bool) : Dv → Bool
  | .str x => strB x && p x
  | _ => false
theorem dB_ok {p : Str → Bool} {d : Dv} (h : dB p d = true) : ∃ x, d = .str x ∧ LfS x ∧ p x = true := by
  cases d with
  | str x => have h' : (strB x && p x) = true := h; rw [Bool.and_eq_true] at h'; exact ⟨x, rfl, strB_ok h'.1, h'.2⟩
  | _ => cases h
theorem nmL_ok : ∀ d ∈ nmL, ∃ x, d = .str x ∧ LfS x ∧ nmP x = true := fun d h => dB_ok (List.all_eq_true.mp (by decide +kernel : nmL.all (dB nmP) = true) d h)
theorem sgL_ok : ∀ d ∈ sgL, ∃ x, d = .str x ∧ LfS x ∧ sgnN x = true := fun d h => dB_ok (List.all_eq_true.mp (by decide +kernel : sgL.all (dB sgnN) = true) d h)
theorem wdL_ok : ∀ d ∈ wdL, ∃ x, d = .str x ∧ LfS x ∧ wrdN x = true := fun d h => dB_ok (List.all_eq_true.mp (by decide +kernel : wdL.all (dB wrdN) = true) d h)
theorem sp_nm (S : Sto) : splitD S "a b h i x y ab doit ifs ends whiles elsee hhhhhhhh zzzzzzzz" [.str " "] = some (.lst nmL, S) := by kernel_rfl
theorem sp_sg (S : Sto) : splitD S "f g h t add fs gone dod splits cutcut fill cut" [.str " "] = some (.lst sgL, S) := by kernel_rfl
theorem sp_wd (S : Sto) : splitD S "k u no 0 10 noo k9 zzzzzzz9" [.str " "] = some (.lst wdL, S) := by kernel_rfl
theorem cut_mem {α : Type} {l : List α} {lo hi : Option Int} {x : α} (h : x ∈ cutG l lo hi) : x ∈ l := List.mem_of_mem_drop (List.mem_of_mem_take h)
theorem cut_ne {α : Type} {l : List α} {a c : Int} (h0 : 0 ≤ a) (h1 : a < c) (h2 : a < l.length) : cutG l (some a) (some c) ≠ [] := by
  unfold cutG
  obtain ⟨m, rfl⟩ : ∃ m : Nat, a = (m : Int) := ⟨a.toNat, by omega⟩
  obtain ⟨k, rfl⟩ : ∃ k : Nat, c = (k : Int) := ⟨c.toNat, by omega⟩
  rw [HT.sIx_nat, HT.sIx_nat]
  intro z
  have := congrArg List.length z
  simp only [List.length_take, List.length_drop, List.length_nil] at this
  omega
theorem menu_of {p : Str → Bool} {l : List Dv} {r k : Int} (hl : l.length ≤ 50) (hm : ∀ d ∈ l, ∃ x, d = .str x ∧ LfS x ∧ p x = true) (h0 : 0 ≤ r) (h1 : r < l.length) (hk : 0 < k) : Menu p (cutG (l ++ l) (some r) (some (r + k))) ∧ (cutG (l ++ l) (some r) (some (r + k))).length ≤ 100 := by
  have hc : (cutG (l ++ l) (some r) (some (r + k))).length ≤ 100 := by
    have := cutG_len (l ++ l) (some r) (some (r + k))
    simp only [List.length_append] at this
    omega
  refine ⟨?_, hc⟩
  refine ⟨cut_ne h0 (by omega) (by simp only [List.length_append]; omega), ?_, fun d hd => ?_⟩
  · omega
  · have := cut_mem hd
    simp only [List.mem_append, or_self] at this
    exact hm d this
theorem names_m {f b : Nat} (T : TakeF f b) {S : Sto} (hB : BagAt S b) {k : Int} (hk : 0 < k) : ∃ m o, calls (f + 1) .l_names S [.hdl b, .int k] = .ok (.lst m) (S.set b o) ∧ (Menu nmP m ∧ m.length ≤ 100) ∧ BagOk o := by
  obtain ⟨r, o, e, r0, r1, ho⟩ := T S hB 14 (by decide) (by decide)
  refine ⟨_, o, ?_, menu_of (l := nmL) (k := k) (by decide) nmL_ok r0 r1 hk, ho⟩
  simp [ev_l_names, fb_l_names, sp_nm, e, op_add_l' _ nmL nmL (by decide)]
theorem signs_m {f b : Nat} (T : TakeF f b) {S : Sto} (hB : BagAt S b) : ∃ m o, calls (f + 1) .l_signs S [.hdl b, .int 3] = .ok (.lst m) (S.set b o) ∧ (Menu sgnN m ∧ m.length ≤ 100) ∧ BagOk o := by
  obtain ⟨r, o, e, r0, r1, ho⟩ := T S hB 12 (by decide) (by decide)
  refine ⟨_, o, ?_, menu_of (l := sgL) (k := 3) (by decide) sgL_ok r0 r1 (by decide), ho⟩
  simp [ev_l_signs, fb_l_signs, sp_sg, e, op_add_l' _ sgL sgL (by decide)]
theorem words_m {f b : Nat} (T : TakeF f b) {S : Sto} (hB : BagAt S b) : ∃ m o, calls (f + 1) .l_words S [.hdl b, .int 3] = .ok (.lst m) (S.set b o) ∧ (Menu wrdN m ∧ m.length ≤ 100) ∧ BagOk o := by
  obtain ⟨r, o, e, r0, r1, ho⟩ := T S hB 8 (by decide) (by decide)
  refine ⟨_, o, ?_, menu_of (l := wdL) (k := 3) (by decide) wdL_ok r0 r1 (by decide), ho⟩
  simp [ev_l_words, fb_l_words, sp_wd, e, op_add_l' _ wdL wdL (by decide)]
def roomOb (c w : Int) (nl sl wl : List Dv) : Ob := .lst [.int c, .int w, .lst nl, .lst sl, .lst wl]
def RoomOk (o : Ob) : Prop := ∃ c w nl sl wl, o = roomOb c w nl sl wl ∧ Menu nmP nl ∧ Menu sgnN sl ∧ Menu wrdN wl
structure BR (S : Sto) (b r : Nat) : Prop where
  bag : BagAt S b
  room : ∃ o, S[r]? = some o ∧ RoomOk o
  ne : b ≠ r
theorem BR.setB {S : Sto} {b r : Nat} {o : Ob} (h : BR S b r) (ho : BagOk o) : BR (S.set b o) b r := ⟨h.bag.set ho, by
  obtain ⟨q, h1, h2⟩ := h.room
  exact ⟨q, by rw [List.getElem?_set, if_neg h.ne]; exact h1, h2⟩, h.ne⟩
theorem BR.setR {S : Sto} {b r : Nat} {o : Ob} (h : BR S b r) (ho : RoomOk o) : BR (S.set r o) b r := ⟨by
  obtain ⟨q, h1, h2⟩ := h.bag
  exact ⟨q, by rw [List.getElem?_set, if_neg h.ne.symm]; exact h1, h2⟩, ⟨o, by
    obtain ⟨q, h1, _⟩ := h.room
    rw [List.getElem?_set, if_pos rfl, if_pos (List.getElem?_eq_some_iff.mp h1).1], ho⟩, h.ne⟩
theorem room_ok {f b : Nat} (T : TakeF f b) {S : Sto} (hB : BagAt S b) {k : Int} (hk : 0 < k) : ∃ S', calls (f + 2) .l_room S [.hdl b, .int 7, .int 7, .int k, .int 3, .int 3] = .ok (.hdl S.length) S' ∧ BR S' b S.length ∧ ∃ nl sl wl, S'[S.length]? = some (roomOb 7 7 nl sl wl) ∧ (Menu nmP nl ∧ nl.length ≤ 100) ∧ (Menu sgnN sl ∧ sl.length ≤ 100) ∧ (Menu wrdN wl ∧ wl.length ≤ 100) := by
  obtain ⟨nl, o1, e1, m1, k1⟩ := names_m T hB hk
  obtain ⟨sl, o2, e2, m2, k2⟩ := signs_m T (hB.set k1)
  obtain ⟨wl, o3, e3, m3, k3⟩ := words_m T ((hB.set k1).set k2)
  have hB3 := ((hB.set k1).set k2).set k3
  have hl : (((S.set b o1).set b o2).set b o3).length = S.length := by simp
  have kl : kLst [.int 7, .int 7, .lst nl, .lst sl, .lst wl] (((S.set b o1).set b o2).set b o3) = .ok [.int 7, .int 7, .lst nl, .lst sl, .lst wl] (((S.set b o1).set b o2).set b o3) := kLst_ok _ _ (line_le _ (by simp))
  generalize hS3 : ((S.set b o1).set b o2).set b o3 = S3 at *
  refine ⟨S3 ++ [roomOb 7 7 nl sl wl], ?_, ⟨hB3.app, ⟨_, by rw [← hl]; simp, 7, 7, nl, sl, wl, rfl, m1.1, m2.1, m3.1⟩, ?_⟩, nl, sl, wl, by rw [← hl]; simp, m1, m2, m3⟩
  · show calls (f + 1 + 1) .l_room S _ = _
    rw [← hl]
    simp [ev_l_room, fb_l_room, e1, e2, e3, kl, roomOb, -List.set_set]
  · have := hB.lt; omega
end DL
namespace DL
open PySem L2
def Zk : Nat → Nat
  | 0 => 1
  | k + 1 => 4 * Zk k + 1
def Gd (k : Nat) (d : Dv) : Prop := ∃ e, d = toD false e ∧ htE e ≤ k ∧ szE e ≤ Zk k ∧ okE e
theorem Zk_le (k : Nat) : Zk k ≤ Zk (k + 1) := by show Zk k ≤ 4 * Zk k + 1; omega
theorem Gd.up {k : Nat} {d : Dv} (h : Gd k d) : Gd (k + 1) d := by
  obtain ⟨e, h1, h2, h3, h4⟩ := h
  exact ⟨e, h1, by omega, Nat.le_trans h3 (Zk_le k), h4⟩
theorem gd_word {d : Dv} (h : ∃ x, d = .str x ∧ LfS x ∧ wrdN x = true) : Gd 0 (.tup [.str "word", d]) := by
  obtain ⟨x, rfl, h⟩ := h
  exact ⟨.lf true x, rfl, Nat.le_refl _, Nat.le_refl _, h⟩
theorem gd_name {d : Dv} (h : ∃ x, d = .str x ∧ LfS x ∧ nmP x = true) : Gd 0 (.tup [.str "name", d]) := by
  obtain ⟨x, rfl, h⟩ := h
  exact ⟨.lf false x, rfl, Nat.le_refl _, Nat.le_refl _, h⟩
theorem gd_list {k : Nat} : ∀ (l : List Dv), (∀ x ∈ l, Gd k x) → ∃ es, l = toDs false es ∧ htL es ≤ k ∧ szL es ≤ l.length * Zk k ∧ es.length = l.length ∧ okL es
  | [], _ => ⟨[], rfl, Nat.zero_le _, Nat.zero_le _, rfl, trivial⟩
  | d :: l, h => by
    obtain ⟨e, h1, h2, h3, h4⟩ := h d (List.mem_cons_self ..)
    obtain ⟨es, g1, g2, g3, g5, g4⟩ := gd_list l fun x hx => h x (List.mem_cons_of_mem _ hx)
    refine ⟨e :: es, by rw [h1, g1]; rfl, Nat.max_le.mpr ⟨h2, g2⟩, ?_, by simp [g5], h4, g4⟩
    show szE e + szL es ≤ (l.length + 1) * Zk k
    rw [Nat.succ_mul]; omega
theorem gd_call {k : Nat} {s : Dv} {l : List Dv} (h : ∃ x, s = .str x ∧ LfS x ∧ sgnN x = true) (h4 : l.length ≤ 4) (hl : ∀ x ∈ l, Gd k x) : Gd (k + 1) (.tup [.str "call", s, .tup l]) := by
  obtain ⟨x, rfl, h⟩ := h
  obtain ⟨es, g1, g2, g3, g5, g4⟩ := gd_list l hl
  have hm : l.length * Zk k ≤ 4 * Zk k := Nat.mul_le_mul_right _ h4
  refine ⟨.call x es, by rw [g1]; rfl, Nat.succ_le_succ g2, ?_, h, by omega, g4⟩
  show szL es + 1 ≤ 4 * Zk k + 1
  omega
theorem gd_nd {k : Nat} (sl : Bool) {l : List Dv} (h5 : l.length = (if sl then 3 else 2)) (hl : ∀ x ∈ l, Gd k x) : Gd (k + 1) (.tup (.str (ndS sl) :: l)) := by
  obtain ⟨es, g1, g2, g3, g5, g4⟩ := gd_list l hl
  have h4 : l.length ≤ 4 := by rw [h5]; cases sl <;> simp
  have hm : l.length * Zk k ≤ 4 * Zk k := Nat.mul_le_mul_right _ h4
  refine ⟨.nd sl es, by rw [g1]; rfl, Nat.succ_le_succ g2, ?_, by rw [g5, h5], g4⟩
  show szL es + 1 ≤ 4 * Zk k + 1
  omega
theorem gd_item {k : Nat} {x y : Dv} (hx : Gd k x) (hy : Gd k y) : Gd (k + 1) (.tup [.str "item", x, y]) := gd_nd false (l := [x, y]) (by simp) (by simp [hx, hy])
theorem gd_slice {k : Nat} {x y z : Dv} (hx : Gd k x) (hy : Gd k y) (hz : Gd k z) : Gd (k + 1) (.tup [.str "slice", x, y, z]) := gd_nd true (l := [x, y, z]) (by simp) (by simp [hx, hy, hz])
theorem operand_ok {f b r : Nat} (T : TakeF f b) (T2 : TakeF (f + 1) b) {S : Sto} (h : BR S b r) : ∃ d S', calls (f + 2) .l_operand S [.hdl b, .hdl r] = .ok d S' ∧ BR S' b r ∧ Gd 0 d := by
  obtain ⟨n, o, e, r0, r1, ho⟩ := T2 S h.bag 4 (by decide) (by decide)
  have h1 := h.setB ho
  obtain ⟨q, hq, c, w, nl, sl, wl, rfl, m1, m2, m3⟩ := h1.room
  unfold roomOb at hq
  show ∃ d S', calls (f + 1 + 1) .l_operand S [.hdl b, .hdl r] = .ok d S' ∧ _
  by_cases hn : n = 0
  · obtain ⟨d, o2, e2, hd, ho2⟩ := one_ok T h1.bag m3.1 (by have := m3.2.1; omega)
    refine ⟨_, _, ?_, h1.setB ho2, gd_word (m3.2.2 d hd)⟩
    simp [ev_l_operand, fb_l_operand, e, hn, hq, e2, -List.set_set]
  · obtain ⟨d, o2, e2, hd, ho2⟩ := one_ok T h1.bag m1.1 (by have := m1.2.1; omega)
    refine ⟨_, _, ?_, h1.setB ho2, gd_name (m1.2.2 d hd)⟩
    simp [ev_l_operand, fb_l_operand, e, hn, hq, e2, -List.set_set]
def ValF (f b r : Nat) (k : Nat) (z : Int) : Prop := ∀ S, BR S b r → ∃ d S', calls f .l_value S [.hdl b, .hdl r, .int z] = .ok d S' ∧ BR S' b r ∧ Gd k d
def OpeF (f b r : Nat) : Prop := ∀ S, BR S b r → ∃ d S', calls f .l_operand S [.hdl b, .hdl r] = .ok d S' ∧ BR S' b r ∧ Gd 0 d
def OneF (f b : Nat) : Prop := ∀ S (l : List Dv), BagAt S b → l ≠ [] → l.length < 1000000 → ∃ d o, calls f .l_one S [.hdl b, .lst l] = .ok d (S.set b o) ∧ d ∈ l ∧ BagOk o
theorem Gd.zero {d : Dv} (h : Gd 0 d) : ∀ k, Gd k d
  | 0 => h
  | k + 1 => (Gd.zero h k).up
theorem lc_val {f b r k : Nat} {z : Int} (V : ValF f b r k (z - 1)) (s3 s4 s5 s6 s7 : Sl) : ∀ (l : List Dv) (S : Sto), BR S b r → ∃ ds S', lcR (gN 8) tTrue (eCall (calls f .l_value) (aCons (eVar 0) (aCons (eVar 1) (aCons (eBin (pu2 subD) (eVar 2) (eC (.int 1))) aNil)))) [.va (.hdl b), .va (.hdl r), .va (.int z), s3, s4, s5, s6, s7, .no] l S = .ok ds S' ∧ BR S' b r ∧ ds.length = l.length ∧ ∀ x ∈ ds, Gd k x
  | [], S, h => ⟨[], S, rfl, h, rfl, fun _ h => nomatch h⟩
  | x :: l, S, h => by
    obtain ⟨d, S1, e, h1, hd⟩ := V S h
    obtain ⟨ds, S2, e2, h2, hl, hds⟩ := lc_val V s3 s4 s5 s6 s7 l S1 h1
    refine ⟨d :: ds, S2, lcR_t (S1 := S) (S2 := S1) rfl rfl (by simp [e]) e2, h2, by simp [hl], fun y hy => ?_⟩
    rcases List.mem_cons.mp hy with rfl | hy
    · exact hd
    · exact hds y hy
theorem many_ok {n : Int} (h0 : 0 ≤ n) (h1 : n < 6) : ∃ m : Nat, atI [Dv.int 0, .int 1, .int 1, .int 2, .int 3, .int 4] n = some (.int (m : Int)) ∧ m ≤ 4 := by
  have : n = 0 ∨ n = 1 ∨ n = 2 ∨ n = 3 ∨ n = 4 ∨ n = 5 := by omega
  rcases this with rfl | rfl | rfl | rfl | rfl | rfl
  · exact ⟨0, rfl, by decide⟩
  · exact ⟨1, rfl, by decide⟩
  · exact ⟨1, rfl, by decide⟩
  · exact ⟨2, rfl, by decide⟩
  · exact ⟨3, rfl, by decide⟩
  · exact ⟨4, rfl, by decide⟩
theorem ix50 : ixN 5 0 = some 0 := by decide
theorem ix51 : ixN 5 1 = some 1 := by decide
def vC (c : Fn → DF) : DS := (sSeq (sAugI subI (eVar 1) (eC (.int 0)) (eC (.int 1))) (sSeq (sAsg 4 (eBin ixD (eFrz (fLst (aCons (eC (.int 0)) (aCons (eC (.int 1)) (aCons (eC (.int 1)) (aCons (eC (.int 2)) (aCons (eC (.int 3)) (aCons (eC (.int 4)) aNil)))))))) (eCall (c .l_take) (aCons (eVar 0) (aCons (eC (.int 6)) aNil))))) (sSeq (sAsg 5 (eCall (c .l_one) (aCons (eVar 0) (aCons (eBin ixD (eVar 1) (eC (.int 3))) aNil)))) (sRet (eTup (aCons (eC (.str "call")) (aCons (eVar 5) (aCons (eCB tupleD (aCons (eFrz (fLc (iRng1' (aCons (eVar 4) aNil)) (gN 8) tTrue (eCall (c .l_value) (aCons (eVar 0) (aCons (eVar 1) (aCons (eBin (pu2 subD) (eVar 2) (eC (.int 1))) aNil)))) [8])) aNil)) aNil))))))))
def vI (c : Fn → DF) : DS := (sSeq (sAugI subI (eVar 1) (eC (.int 1)) (eC (.int 1))) (sSeq (sAsg 6 (eCall (c .l_value) (aCons (eVar 0) (aCons (eVar 1) (aCons (eBin (pu2 subD) (eVar 2) (eC (.int 1))) aNil))))) (sRet (eTup (aCons (eC (.str "item")) (aCons (eVar 6) (aCons (eCall (c .l_value) (aCons (eVar 0) (aCons (eVar 1) (aCons (eBin (pu2 subD) (eVar 2) (eC (.int 1))) aNil)))) aNil)))))))
def vS (c : Fn → DF) : DS := (sSeq (sAugI subI (eVar 1) (eC (.int 0)) (eC (.int 1))) (sSeq (sAugI subI (eVar 1) (eC (.int 1)) (eC (.int 1))) (sSeq (sAsg 6 (eCall (c .l_value) (aCons (eVar 0) (aCons (eVar 1) (aCons (eBin (pu2 subD) (eVar 2) (eC (.int 1))) aNil))))) (sSeq (sAsg 7 (eCall (c .l_value) (aCons (eVar 0) (aCons (eVar 1) (aCons (eBin (pu2 subD) (eVar 2) (eC (.int 1))) aNil))))) (sRet (eTup (aCons (eC (.str "slice")) (aCons (eVar 6) (aCons (eVar 7) (aCons (eCall (c .l_value) (aCons (eVar 0) (aCons (eVar 1) (aCons (eBin (pu2 subD) (eVar 2) (eC (.int 1))) aNil)))) aNil))))))))))
def vO (c : Fn → DF) : DS := (sRet (eCall (c .l_operand) (aCons (eVar 0) (aCons (eVar 1) aNil))))
theorem fb_value_eq (c : Fn → DF) : fb_l_value c = (sSeq (sAsg 3 (eCall (c .l_take) (aCons (eVar 0) (aCons (eC (.int 8)) aNil)))) (sSeq (sIf (tOr' (tVal (eBin (pu2 ltD) (eVar 2) (eC (.int 1)))) (tVal (eBin (pu2 gtD) (eVar 3) (eC (.int 5))))) (vO c) sNil) (sSeq (sIf (tAnd' (tVal (eBin (pu2 ltD) (eVar 3) (eC (.int 3)))) (tVal (eBin (pu2 gtD) (eBin ixD (eVar 1) (eC (.int 0))) (eC (.int 0))))) (vC c) sNil) (sSeq (sIf (tAnd' (tVal (eBin (pu2 ltD) (eVar 3) (eC (.int 5)))) (tVal (eBin (pu2 gtD) (eBin ixD (eVar 1) (eC (.int 1))) (eC (.int 0))))) (vI c) sNil) (sSeq (sIf (tAnd' (tVal (eBin eqE (eVar 3) (eC (.int 5)))) (tAnd' (tVal (eBin (pu2 gtD) (eBin ixD (eVar 1) (eC (.int 0))) (eC (.int 0)))) (tVal (eBin (pu2 gtD) (eBin ixD (eVar 1) (eC (.int 1))) (eC (.int 0)))))) (vS c) sNil) (vO c)))))) := rfl
abbrev vE (b r : Nat) (z n : Int) : Env := [.va (.hdl b), .va (.hdl r), .va (.int z), .va (.int n), .no, .no, .no, .no, .no]
theorem vO_ok {f b r : Nat} {z n : Int} (O : OpeF f b r) {S : Sto} (h : BR S b r) : ∃ d S', vO (calls f) (vE b r z n) S = .rt d S' ∧ BR S' b r ∧ Gd 0 d := by
  obtain ⟨od, oS, oe, oB, oG⟩ := O _ h
  exact ⟨od, oS, by simp [vO, oe], oB, oG⟩
theorem vC_shape {f b r : Nat} {z n mi n2 c w : Int} {S S2 S3 S4 S5 : Sto} {s : Dv} {ds nl sl wl : List Dv} (X : Env → Sto → Res (List Dv))
    (hq : S[r]? = some (.lst [.int c, .int w, .lst nl, .lst sl, .lst wl])) (hS2 : S2 = S.set r (.lst [.int (c - 1), .int w, .lst nl, .lst sl, .lst wl]))
    (e2 : calls f .l_take S2 [.hdl b, .int 6] = .ok (.int n2) S3) (em : atI [Dv.int 0, .int 1, .int 1, .int 2, .int 3, .int 4] n2 = some (.int mi))
    (hq3 : S3[r]? = some (.lst [.int (c - 1), .int w, .lst nl, .lst sl, .lst wl])) (e3 : calls f .l_one S3 [.hdl b, .lst sl] = .ok s S4)
    (hX : X [.va (.hdl b), .va (.hdl r), .va (.int z), .va (.int n), .va (.int mi), .va s, .no, .no, .no] S4 = .ok ds S5) :
    (sSeq (sAugI subI (eVar 1) (eC (.int 0)) (eC (.int 1))) (sSeq (sAsg 4 (eBin ixD (eFrz (fLst (aCons (eC (.int 0)) (aCons (eC (.int 1)) (aCons (eC (.int 1)) (aCons (eC (.int 2)) (aCons (eC (.int 3)) (aCons (eC (.int 4)) aNil)))))))) (eCall (calls f .l_take) (aCons (eVar 0) (aCons (eC (.int 6)) aNil))))) (sSeq (sAsg 5 (eCall (calls f .l_one) (aCons (eVar 0) (aCons (eBin ixD (eVar 1) (eC (.int 3))) aNil)))) (sRet (eTup (aCons (eC (.str "call")) (aCons (eVar 5) (aCons (eCB tupleD (aCons (eFrz X) aNil)) aNil)))))))) [.va (.hdl b), .va (.hdl r), .va (.int z), .va (.int n), .no, .no, .no, .no, .no] S = .rt (.tup [.str "call", s, .tup ds]) S5 := by
  have el : ∀ S, kLst [Dv.int 0, .int 1, .int 1, .int 2, .int 3, .int 4] S = .ok [Dv.int 0, .int 1, .int 1, .int 2, .int 3, .int 4] S := fun S => kLst_ok _ _ (line_le _ (by simp))
  simp [hq, ix50, el, ← hS2, e2, em, hq3, e3, hX, -List.set_set]
theorem vC_ok {f b r k : Nat} {z n : Int} (T : TakeF f b) (N : OneF f b) (V : ValF f b r k (z - 1)) {S : Sto} (h1 : BR S b r) : ∃ d S', vC (calls f) (vE b r z n) S = .rt d S' ∧ BR S' b r ∧ Gd (k + 1) d := by
  obtain ⟨q, hq, c, w, nl, sl, wl, rfl, m1, m2, m3⟩ := h1.room
  have hset : ∀ x : Ob, (S.set r x)[r]? = some x := fun x => by rw [List.getElem?_set, if_pos rfl, if_pos (List.getElem?_eq_some_iff.mp hq).1]
  have hr1 : RoomOk (roomOb (c - 1) w nl sl wl) := ⟨_, _, _, _, _, rfl, m1, m2, m3⟩
  have h2 := h1.setR hr1
  obtain ⟨n2, o2, e2, q0, q1, ho2⟩ := T _ h2.bag 6 (by decide) (by decide)
  obtain ⟨m, em, hm⟩ := many_ok q0 q1
  have h3 := h2.setB ho2
  have hq3 : (((S.set r (roomOb (c - 1) w nl sl wl)).set b o2))[r]? = some (roomOb (c - 1) w nl sl wl) := by rw [List.getElem?_set, if_neg h1.ne]; exact hset _
  obtain ⟨s, o3, e3, hs, ho3⟩ := N _ sl h3.bag m2.1 (by have := m2.2.1; omega)
  have h4 := h3.setB ho3
  obtain ⟨ds, S5, e5, h5, hl, hds⟩ := lc_val V (.va (.int n)) (.va (.int (m : Int))) (.va s) .no .no (rngD 0 m) _ h4
  have hl4 : ds.length ≤ 4 := by rw [hl, rngD_len]; exact hm
  have er : ∀ S, rngR1 [.int (m : Int)] S = .ok (rngD 0 m) S := fun S => by have := rngR1_ok S (m : Int) (by omega); rwa [Int.toNat_natCast] at this
  have ek := kLcEnd' (S := S5) (l := ds) (by omega)
  refine ⟨.tup [.str "call", s, .tup ds], S5, ?_, h5, gd_call (m2.2.2 s hs) hl4 hds⟩
  unfold roomOb at *
  generalize hm : (m : Int) = mi at *
  have t4 : fLc (iRng1' (aCons (eVar 4) aNil)) (gN 8) tTrue (eCall (calls f .l_value) (aCons (eVar 0) (aCons (eVar 1) (aCons (eBin (pu2 subD) (eVar 2) (eC (.int 1))) aNil)))) [8] [.va (.hdl b), .va (.hdl r), .va (.int z), .va (.int n), .va (.int mi), .va s, .no, .no, .no] (((S.set r (.lst [.int (c - 1), .int w, .lst nl, .lst sl, .lst wl])).set b o2).set b o3) = .ok ds S5 := by
    rw [ev_fLc, ev_rng1, show (aCons (eVar 4) aNil) [.va (.hdl b), .va (.hdl r), .va (.int z), .va (.int n), .va (.int mi), .va s, .no, .no, .no] (((S.set r (.lst [.int (c - 1), .int w, .lst nl, .lst sl, .lst wl])).set b o2).set b o3) = .ok [.int mi] (((S.set r (.lst [.int (c - 1), .int w, .lst nl, .lst sl, .lst wl])).set b o2).set b o3) from rfl]
    rw [bnd_ok, er, bnd_ok, ev_kLc]
    show kLcEnd (lcR _ _ _ [.va (.hdl b), .va (.hdl r), .va (.int z), .va (.int n), .va (.int mi), .va s, .no, .no, .no] _ _) = _
    rw [e5, ek]
  exact vC_shape _ hq rfl e2 em hq3 e3 t4
theorem vI_ok {f b r k : Nat} {z n : Int} (V : ValF f b r k (z - 1)) {S : Sto} (h1 : BR S b r) : ∃ d S', vI (calls f) (vE b r z n) S = .rt d S' ∧ BR S' b r ∧ Gd (k + 1) d := by
  obtain ⟨q, hq, c, w, nl, sl, wl, rfl, m1, m2, m3⟩ := h1.room
  have hr1 : RoomOk (roomOb c (w - 1) nl sl wl) := ⟨_, _, _, _, _, rfl, m1, m2, m3⟩
  obtain ⟨x, S3, e3, h3, gx⟩ := V _ (h1.setR hr1)
  obtain ⟨y, S4, e4, h4, gy⟩ := V _ h3
  refine ⟨.tup [.str "item", x, y], S4, ?_, h4, gd_item gx gy⟩
  unfold roomOb at *
  simp [vI, hq, ix51, e3, e4, -List.set_set]
theorem vS_ok {f b r k : Nat} {z n : Int} (V : ValF f b r k (z - 1)) {S : Sto} (h1 : BR S b r) : ∃ d S', vS (calls f) (vE b r z n) S = .rt d S' ∧ BR S' b r ∧ Gd (k + 1) d := by
  obtain ⟨q, hq, c, w, nl, sl, wl, rfl, m1, m2, m3⟩ := h1.room
  have hset : ∀ x : Ob, (S.set r x)[r]? = some x := fun x => by rw [List.getElem?_set, if_pos rfl, if_pos (List.getElem?_eq_some_iff.mp hq).1]
  have hr1 : RoomOk (roomOb (c - 1) w nl sl wl) := ⟨_, _, _, _, _, rfl, m1, m2, m3⟩
  have hr2 : RoomOk (roomOb (c - 1) (w - 1) nl sl wl) := ⟨_, _, _, _, _, rfl, m1, m2, m3⟩
  obtain ⟨x, S3, e3, h3, gx⟩ := V _ ((h1.setR hr1).setR hr2)
  obtain ⟨y, S4, e4, h4, gy⟩ := V _ h3
  obtain ⟨u, S5, e5, h5, gu⟩ := V _ h4
  refine ⟨.tup [.str "slice", x, y, u], S5, ?_, h5, gd_slice gx gy gu⟩
  unfold roomOb at *
  simp [vS, hq, hset, ix50, ix51, e3, e4, e5, -List.set_set]
theorem value_step {f b r k : Nat} {z : Int} (T : TakeF f b) (O : OpeF f b r) (N : OneF f b) (hz : 1 ≤ z) (V : ValF f b r k (z - 1)) : ValF (f + 1) b r (k + 1) z := by
  intro S h
  obtain ⟨n, o, e, r0, r1, ho⟩ := T S h.bag 8 (by decide) (by decide)
  have h1 := h.setB ho
  have hz1 : ¬ z < 1 := by omega
  obtain ⟨od, oS, oe, oB, oG⟩ := vO_ok (z := z) (n := n) O h1
  have g1 := oG.zero (k + 1)
  obtain ⟨cd, cS, ce, cB, cG⟩ := vC_ok (z := z) (n := n) T N V h1
  obtain ⟨id, iS, ie, iB, iG⟩ := vI_ok (z := z) (n := n) V h1
  obtain ⟨sd, sS, se, sB, sG⟩ := vS_ok (z := z) (n := n) V h1
  obtain ⟨q, hq, c, w, nl, sl, wl, rfl, m1, m2, m3⟩ := h1.room
  unfold roomOb at hq
  generalize S.set b o = S1 at *
  unfold vE at *
  by_cases hA : 5 < n
  · exact ⟨od, oS, by simp [ev_l_value, fb_value_eq, e, hz1, hA, oe], oB, g1⟩
  by_cases n3 : n < 3
  · by_cases hc : 0 < c
    · exact ⟨cd, cS, by simp [ev_l_value, fb_value_eq, e, hz1, hA, n3, hc, hq, ce], cB, cG⟩
    · have nn : n < 5 := by omega
      have ne : ¬ n = 5 := by omega
      by_cases hw : 0 < w
      · exact ⟨id, iS, by simp [ev_l_value, fb_value_eq, e, hz1, hA, n3, hc, nn, hw, hq, ie], iB, iG⟩
      · exact ⟨od, oS, by simp [ev_l_value, fb_value_eq, e, hz1, hA, n3, hc, nn, hw, ne, hq, oe], oB, g1⟩
  · by_cases nn : n < 5
    · have ne : ¬ n = 5 := by omega
      by_cases hw : 0 < w
      · exact ⟨id, iS, by simp [ev_l_value, fb_value_eq, e, hz1, hA, n3, nn, hw, hq, ie], iB, iG⟩
      · exact ⟨od, oS, by simp [ev_l_value, fb_value_eq, e, hz1, hA, n3, nn, hw, ne, hq, oe], oB, g1⟩
    · have ne : n = 5 := by omega
      subst ne
      by_cases hc : 0 < c
      · by_cases hw : 0 < w
        · exact ⟨sd, sS, by simp [ev_l_value, fb_value_eq, e, hz1, hc, hw, hq, se], sB, sG⟩
        · exact ⟨od, oS, by simp [ev_l_value, fb_value_eq, e, hz1, hc, hw, hq, oe], oB, g1⟩
      · exact ⟨od, oS, by simp [ev_l_value, fb_value_eq, e, hz1, hc, hq, oe], oB, g1⟩
theorem oneF {f b : Nat} (h : 2 ≤ f) : OneF f b := by
  obtain ⟨g, rfl⟩ : ∃ g, f = g + 1 := ⟨f - 1, by omega⟩
  exact fun S l h0 h1 h2 => one_ok (takeF' b (by omega)) h0 h1 h2
theorem opeF {f b r : Nat} (h : 3 ≤ f) : OpeF f b r := by
  obtain ⟨g, rfl⟩ : ∃ g, f = g + 2 := ⟨f - 2, by omega⟩
  exact fun S h0 => operand_ok (takeF' b (by omega)) (takeF' b (by omega)) h0
theorem value_zero {f b r : Nat} {z : Int} (T : TakeF f b) (O : OpeF f b r) (hz : z < 1) : ValF (f + 1) b r 0 z := by
  intro S h
  obtain ⟨n, o, e, r0, r1, ho⟩ := T S h.bag 8 (by decide) (by decide)
  obtain ⟨od, oS, oe, oB, oG⟩ := O _ (h.setB ho)
  exact ⟨od, oS, by simp [ev_l_value, fb_l_value, e, hz, oe], oB, oG⟩
theorem valF {b r : Nat} : ∀ (k f : Nat), k + 4 ≤ f → ValF f b r k (k : Int)
  | 0, f, h => by
    obtain ⟨g, rfl⟩ : ∃ g, f = g + 1 := ⟨f - 1, by omega⟩
    exact value_zero (takeF' b (by omega)) (opeF (by omega)) (by decide)
  | k + 1, f, h => by
    obtain ⟨g, rfl⟩ : ∃ g, f = g + 1 := ⟨f - 1, by omega⟩
    have := valF (b := b) (r := r) k g (by omega)
    refine value_step (takeF' b (by omega)) (opeF (by omega)) (oneF (by omega)) (by omega) ?_
    rw [show ((k + 1 : Nat) : Int) - 1 = (k : Int) by omega]
    exact this
end DL
namespace DL
open PySem L2
def LoL (R : Dv → Dv → Prop) : List Dv → List Dv → Prop
  | [], [] => True
  | x :: l, y :: m => R x y ∧ LoL R l m
  | _, _ => False
theorem lol_len {R : Dv → Dv → Prop} : ∀ {l m : List Dv}, LoL R l m → m.length = l.length
  | [], [], _ => rfl
  | x :: l, y :: m, h => by simp only [List.length_cons, lol_len h.2]
  | [], y :: m, h => h.elim
  | x :: l, [], h => h.elim
theorem lol_toDs {R : Dv → Dv → Prop} {b c : Bool} : ∀ {l : List Ex}, (∀ e ∈ l, R (toD b e) (toD c e)) → LoL R (toDs b l) (toDs c l)
  | [], _ => trivial
  | e :: l, h => ⟨h e (List.mem_cons_self ..), lol_toDs fun x hx => h x (List.mem_cons_of_mem _ hx)⟩
theorem toDs_len (b : Bool) (l : List Ex) : (toDs b l).length = l.length := by rw [toDs_map, List.length_map]
theorem len_sz : ∀ l : List Ex, l.length ≤ szL l
  | [] => Nat.le_refl _
  | e :: l => by
    show l.length + 1 ≤ szE e + szL l
    have h1 := len_sz l
    have h2 : 1 ≤ szE e := by have := sz_pt e; omega
    omega
def AtR (f : Nat) (S : Sto) (x y : Dv) : Prop := calls f .as_tuples S [x] = .ok y S
theorem at_str (f : Nat) (S : Sto) (x : Str) : AtR (f + 1) S (.str x) (.str x) := by simp [AtR, ev_as_tuples, fb_as_tuples]
theorem at_lc {f : Nat} {S : Sto} {d : Dv} : ∀ {l m : List Dv}, LoL (AtR f S) l m → lcR (gN 1) tTrue (eCall (calls f .as_tuples) (aCons (eVar 1) aNil)) [.va d, .no] l S = .ok m S
  | [], [], _ => rfl
  | x :: l, y :: m, h => lcR_t (S1 := S) (S2 := S) rfl rfl (by have := h.1; unfold AtR at this; simp [this]) (at_lc h.2)
  | [], y :: m, h => h.elim
  | x :: l, [], h => h.elim
theorem at_seq {f : Nat} {S : Sto} {b : Bool} {l m : List Dv} (h : LoL (AtR f S) l m) (hl : l.length ≤ 16000000) : AtR (f + 1) S (mkS b l) (.tup m) := by
  have e := fun d => at_lc (d := d) h
  have ek := kLcEnd' (S := S) (l := m) (by rw [lol_len h]; omega)
  unfold AtR
  cases b <;> simp [mkS, ev_as_tuples, fb_as_tuples, e, ek]
theorem at_ok {b : Bool} : ∀ (f : Nat) (e : Ex), 2 * htE e + 2 ≤ f → szE e ≤ 16000000 - 10 → ∀ S, AtR f S (toD b e) (toD false e)
  | 0, e, h, _, _ => by omega
  | f + 1, e, hf, hs, S => by
    cases e with
    | lf w x =>
      obtain ⟨g, rfl⟩ : ∃ g, f = g + 1 := ⟨f - 1, by omega⟩
      exact at_seq (l := [.str (lfS w), .str x]) ⟨at_str .., at_str .., trivial⟩ (by simp)
    | call s l =>
      have h1 : 2 * (htL l + 1) + 2 ≤ f + 1 := hf
      have h2 : szL l + 1 ≤ 16000000 - 10 := hs
      have h3 := len_sz l
      obtain ⟨g, rfl⟩ : ∃ g, f = g + 1 := ⟨f - 1, by omega⟩
      have ih := fun e (h : e ∈ l) => at_ok (b := b) g e (by have := ht_mem h; omega) (by have := sz_mem h; omega) S
      have hin := at_seq (b := b) (lol_toDs ih) (by rw [toDs_len]; omega)
      exact at_seq (l := [.str "call", .str s, mkS b (toDs b l)]) ⟨at_str .., at_str .., hin, trivial⟩ (by simp)
    | nd sl l =>
      have h1 : 2 * (htL l + 1) + 2 ≤ f + 1 := hf
      have h2 : szL l + 1 ≤ 16000000 - 10 := hs
      have h3 := len_sz l
      have ih := fun e (h : e ∈ l) => at_ok (b := b) f e (by have := ht_mem h; omega) (by have := sz_mem h; omega) S
      obtain ⟨g, rfl⟩ : ∃ g, f = g + 1 := ⟨f - 1, by omega⟩
      exact at_seq (l := .str (ndS sl) :: toDs b l) ⟨at_str .., lol_toDs ih⟩ (by simp only [List.length_cons, toDs_len]; omega)
end DL
namespace DL
open PySem L2
theorem namN_of {x : Str} (h : nmP x = true) : namN x = true := by
  unfold nmP at h; unfold namN
  rw [Bool.and_eq_true] at h
  rw [h.1]; rfl
theorem hlp_of {x : Str} (h : nmP x = true) : hlpN x = false := by
  unfold nmP at h
  rw [Bool.and_eq_true] at h
  simpa using h.2
theorem sq_t (l : List Dv) : sq (.tup l) = some l := rfl
mutual
theorem isE_ok : ∀ (e : Ex) (n : Nat), okE e → htE e ≤ n → isE (n + 1) (toD false e) = true
  | .lf w x, n, h, _ => by
    have h2 : lfP w x = true := h.2
    show isE (n + 1) (.tup [.str (lfS w), .str x]) = true
    rw [isE_seq n (sq_t _), hd_s, bd1]
    cases w with
    | false => rw [show lfS false = "name" from rfl, if_pos rfl]; exact namN_of h2
    | true => rw [show lfS true = "word" from rfl, if_neg wn, if_pos rfl]; exact h2
  | .call s l, 0, h, hn => absurd hn (by simp [htE])
  | .nd s l, 0, h, hn => absurd hn (by simp [htE])
  | .call s l, n + 1, h, hn => by
    show isE (n + 1 + 1) (.tup [.str "call", .str s, .tup (toDs false l)]) = true
    rw [isE_seq (n + 1) (sq_t _), hd_s, bd2, if_pos rfl]
    have hs : onS sgnN (.str s) = true := h.1.2
    have hl := isEs_ok l n h.2.2 (Nat.le_of_succ_le_succ hn)
    have hlen : (toDs false l).length ≤ 4 := by rw [toDs_len]; exact h.2.1
    rw [hs]
    unfold lstE
    rw [sq_t]
    simp only [Bool.true_and, Bool.and_eq_true, decide_eq_true_eq]
    exact ⟨hlen, hl⟩
  | .nd sl l, n + 1, h, hn => by
    show isE (n + 1 + 1) (.tup (.str (ndS sl) :: toDs false l)) = true
    rw [isE_seq (n + 1) (sq_t _), hd_s]
    have hl := isEs_ok l n h.2 (Nat.le_of_succ_le_succ hn)
    have hlen := h.1
    cases sl with
    | false =>
      match l, hlen, hl with
      | [x, y], _, hl =>
        show bodyE (isE (n + 1)) "item" [toD false x, toD false y] = true
        rw [bd2, if_neg ic, if_pos rfl]
        simpa [toDs] using hl
      | [], hlen, _ => simp at hlen
      | [_], hlen, _ => simp at hlen
      | _ :: _ :: _ :: _, hlen, _ => simp at hlen
    | true =>
      match l, hlen, hl with
      | [x, y, z], _, hl =>
        show bodyE (isE (n + 1)) "slice" [toD false x, toD false y, toD false z] = true
        rw [bd3, if_pos rfl]
        simpa [toDs] using hl
      | [], hlen, _ => simp at hlen
      | [_], hlen, _ => simp at hlen
      | [_, _], hlen, _ => simp at hlen
      | _ :: _ :: _ :: _ :: _, hlen, _ => simp at hlen
theorem isEs_ok : ∀ (l : List Ex) (n : Nat), okL l → htL l ≤ n → (toDs false l).all (isE (n + 1)) = true
  | [], n, _, _ => rfl
  | e :: l, n, h, hn => by
    have hm : max (htE e) (htL l) ≤ n := hn
    have h1 := isE_ok e n h.1 (Nat.le_trans (Nat.le_max_left ..) hm)
    have h2 := isEs_ok l n h.2 (Nat.le_trans (Nat.le_max_right ..) hm)
    show ((toD false e) :: toDs false l).all _ = true
    rw [List.all_cons, h1, h2]; rfl
end
theorem ex_dt {e : Ex} (h : okE e) (hz : szE e ≤ 2000) : Dt (2 * htE e + 1) (toD false e) := (trE false e h).dt (by omega)
theorem ex_ok {e : Ex} (h : okE e) (hz : szE e ≤ 2000) {F : Nat} (hF : 4 * htE e + 6 ≤ F) (S : Sto) : calls F .is_expression S [toD false e] = .ok (.bl true) S := by
  rw [expr_ok _ _ F (ex_dt h hz) (by omega) S, isE_ok e (2 * htE e + 1) h (by omega)]
structure Rw where
  a : Bool
  p : Ex
  e : Ex
def rwS (a : Bool) : Str := if a then "add" else "set"
def rowD (w : Rw) : Dv := .tup [.str (rwS w.a), toD false w.p, toD false w.e]
def isPl : Ex → Bool
  | .lf w _ => !w
  | .call _ _ => false
  | .nd _ _ => true
structure RowOk (w : Rw) : Prop where
  p : okE w.p
  pl : isPl w.p = true
  hp : htE w.p ≤ 3
  zp : szE w.p ≤ 1365
  e : okE w.e
  he : htE w.e ≤ 3
  ze : szE w.e ≤ 1365
def RowsOk (ws : List Rw) : Prop := ∀ w ∈ ws, RowOk w
theorem ex_plk {e : Ex} (h : okE e) (hz : szE e ≤ 2000) : PlK (toD false e) := (ex_dt h hz).plk
theorem in_pl (S : Sto) (k : Str) : inD false S (.str k) (.tup [.str "name", .str "item", .str "slice"]) = some (.bl (inF (.str k) [.str "name", .str "item", .str "slice"]), S) := rfl
theorem pl_n : inF (.str "name") [.str "name", .str "item", .str "slice"] = true := by decide +kernel
theorem pl_i : inF (.str "item") [.str "name", .str "item", .str "slice"] = true := by decide +kernel
theorem pl_s : inF (.str "slice") [.str "name", .str "item", .str "slice"] = true := by decide +kernel
theorem place_ok {e : Ex} (h : okE e) (hp : isPl e = true) (hz : szE e ≤ 2000) {F : Nat} (hF : 4 * htE e + 6 ≤ F) (S : Sto) : calls (F + 1) .is_place S [toD false e] = .ok (.bl true) S := by
  have e1 := ex_ok h hz hF S
  cases e with
  | lf w x =>
    cases w with
    | true => cases hp
    | false =>
      have e2 : ixD S (toD false (.lf false x)) (.int 0) = some (.str "name", S) := by simp [toD, mkS, lfS, at0]
      generalize toD false (.lf false x) = d at *
      simp [ev_is_place, fb_is_place, e1, e2, in_pl, pl_n]
  | call s l => cases hp
  | nd sl l =>
    have e2 : ixD S (toD false (.nd sl l)) (.int 0) = some (.str (ndS sl), S) := by simp [toD, mkS, at0]
    generalize toD false (.nd sl l) = d at *
    cases sl <;> simp [ev_is_place, fb_is_place, e1, e2, in_pl, ndS, pl_i, pl_s]
theorem k_sd : ¬ (("set" : Str) = "do") := by decide +kernel
theorem k_ad : ¬ (("add" : Str) = "do") := by decide +kernel
theorem k_as : ¬ (("add" : Str) = "set") := by decide +kernel
theorem k_sa : ¬ (("set" : Str) = "add") := by decide +kernel
theorem simple_ok {w : Rw} (h : RowOk w) {F : Nat} (hF : 20 ≤ F) (S : Sto) : calls (F + 1) .is_simple_row S [rowD w] = .ok (.bl true) S := by
  obtain ⟨G, rfl⟩ : ∃ G, F = G + 1 := ⟨F - 1, by omega⟩
  have hpl : ∀ x ∈ [Dv.str (rwS w.a), toD false w.p, toD false w.e], PlK x := by
    intro x hx
    rcases List.mem_cons.mp hx with rfl | hx
    · cases w.a
      · show PlK (.str "set"); exact (by decide +kernel : ("set" : Str).length ≤ 16777216)
      · show PlK (.str "add"); exact (by decide +kernel : ("add" : Str).length ≤ 16777216)
    · rcases List.mem_cons.mp hx with rfl | hx
      · exact ex_plk h.p (by have := h.zp; omega)
      · rcases List.mem_cons.mp hx with rfl | hx
        · exact ex_plk h.e (by have := h.ze; omega)
        · cases hx
  have f1 := fun k j hj => form_seq G (rowD w) [.str (rwS w.a), toD false w.p, toD false w.e] k j hj S (.inl rfl) hpl
  have e3 := ex_ok h.e (by have := h.ze; omega) (F := G + 1) (by have := h.he; omega) S
  have e4 := place_ok h.p h.pl (by have := h.zp; omega) (F := G) (by have := h.hp; omega) S
  have a1 : calls (G + 1) .has_form S [rowD w, .str "do", .int 2] = .ok (.bl false) S := f1 "do" 2 (by decide)
  have a2 : calls (G + 1) .has_form S [rowD w, .str "set", .int 3] = .ok (.bl (!w.a)) S := by
    refine (f1 "set" 3 (by decide)).trans ?_
    cases w.a <;> simp [frm, rwS, k_as]
  have a3 : calls (G + 1) .has_form S [rowD w, .str "add", .int 3] = .ok (.bl w.a) S := by
    refine (f1 "add" 3 (by decide)).trans ?_
    cases w.a <;> simp [frm, rwS, k_sa]
  have i1 : ixD S (rowD w) (.int 1) = some (toD false w.p, S) := by unfold rowD; simp [at1]
  have i2 : ixD S (rowD w) (.int 2) = some (toD false w.e, S) := by unfold rowD; simp [at2]
  generalize rowD w = r at *
  generalize toD false w.p = dp at *
  generalize toD false w.e = de at *
  cases hw : w.a <;> simp [hw] at a2 a3 <;> simp [ev_is_simple_row, fb_is_simple_row, a1, a2, a3, i1, i2, e3, e4]
theorem fault_ok {w : Rw} (h : RowOk w) {F : Nat} (hF : 21 ≤ F) (S : Sto) : calls (F + 1) .fault_in S [rowD w] = .ok .non S := by
  obtain ⟨G, rfl⟩ : ∃ G, F = G + 1 := ⟨F - 1, by omega⟩
  have e1 := simple_ok h (F := G) (by omega) S
  simp [ev_fault_in, fb_fault_in, e1]
theorem ff_loop {F : Nat} (hF : 28 ≤ F) (S : Sto) (s0 : Sl) : ∀ (l : List Dv) (s1 s2 s3 : Sl), (∀ d ∈ l, ∃ (i : Int) (e : Rw), d = .tup [.int i, rowD e] ∧ RowOk e) → ∃ z1 z2 z3, forR (gT (gsCons (gN 1) (gsCons (gN 2) gsNil))) (fb_first_fault_l0 (calls F)) l [s0, s1, s2, s3] S = .nx [s0, z1, z2, z3] S
  | [], s1, s2, s3, _ => ⟨s1, s2, s3, rfl⟩
  | d :: l, s1, s2, s3, h => by
    obtain ⟨i, e, rfl, h1⟩ := h d (List.mem_cons_self ..)
    obtain ⟨z1, z2, z3, hz⟩ := ff_loop hF S s0 l (.va (.int i)) (.va (rowD e)) (.va .non) fun x hx => h x (List.mem_cons_of_mem _ hx)
    refine ⟨z1, z2, z3, ?_⟩
    obtain ⟨G, rfl⟩ : ∃ G, F = G + 1 := ⟨F - 1, by omega⟩
    have e1 := fault_ok h1 (F := G) (by omega) S
    rw [forR_nx (e2 := [s0, .va (.int i), .va (rowD e), .va .non]) (S1 := S) rfl ?_, hz]
    generalize rowD e = r at *
    simp [fb_first_fault_l0, e1]
theorem enum_mem {l : List Dv} {d : Dv} (h : d ∈ enumD l) : ∃ (i : Int) (x : Dv), d = .tup [.int i, x] ∧ x ∈ l := by
  unfold enumD at h
  rw [List.mem_mapIdx] at h
  obtain ⟨i, hi, rfl⟩ := h
  exact ⟨_, _, rfl, List.getElem_mem hi⟩
theorem first_ok {F : Nat} (hF : 28 ≤ F) {es : List Rw} (h : RowsOk es) (S : Sto) : calls (F + 1) .first_fault S [.lst (es.map rowD)] = .ok .non S := by
  obtain ⟨z1, z2, z3, hz⟩ := ff_loop hF S (.va (.lst (es.map rowD))) (enumD (es.map rowD)) .no .no .no fun d hd => by
    obtain ⟨i, x, rfl, hx⟩ := enum_mem hd
    obtain ⟨e, he, rfl⟩ := List.mem_map.mp hx
    exact ⟨i, e, rfl, h e he⟩
  generalize es.map rowD = rs at *
  simp [ev_first_fault, fb_first_fault, hz]
theorem row_at {w : Rw} (h : RowOk w) {F : Nat} (hF : 12 ≤ F) (S : Sto) : AtR (F + 1) S (rowD w) (rowD w) := by
  obtain ⟨G, rfl⟩ : ∃ G, F = G + 1 := ⟨F - 1, by omega⟩
  have := h.hp
  have := h.he
  have := h.zp
  have := h.ze
  exact at_seq (b := false) (l := [.str (rwS w.a), toD false w.p, toD false w.e]) ⟨at_str .., at_ok (b := false) (G + 1) w.p (by omega) (by omega) S, at_ok (b := false) (G + 1) w.e (by omega) (by omega) S, trivial⟩ (by simp)
theorem lol_same {R : Dv → Dv → Prop} : ∀ {l : List Dv}, (∀ x ∈ l, R x x) → LoL R l l
  | [], _ => trivial
  | e :: l, h => ⟨h e (List.mem_cons_self ..), lol_same fun x hx => h x (List.mem_cons_of_mem _ hx)⟩
theorem rows_at {F : Nat} (hF : 20 ≤ F) {es : List Rw} (h : RowsOk es) (hl : es.length ≤ 100) (S : Sto) : calls (F + 1) .as_tuples S [.lst (es.map rowD)] = .ok (.tup (es.map rowD)) S := by
  obtain ⟨G, rfl⟩ : ∃ G, F = G + 1 := ⟨F - 1, by omega⟩
  refine at_seq (f := G + 1) (b := true) (lol_same fun x hx => ?_) (by simp; omega)
  obtain ⟨e, he, rfl⟩ := List.mem_map.mp hx
  exact row_at (h e he) (by omega) S
end DL
namespace DL
open PySem L2
mutual
theorem nms_ok : ∀ e, okE e → ∀ x ∈ nmsE e, LfS x ∧ nmP x = true
  | .lf w x, h => by
    cases w with
    | false =>
      intro y hy
      have : y = x := by simpa [nmsE] using hy
      subst this
      exact h
    | true => intro y hy; simp [nmsE] at hy
  | .call s l, h => nmsL_ok l h.2.2
  | .nd sl l, h => nmsL_ok l h.2
theorem nmsL_ok : ∀ l, okL l → ∀ x ∈ nmsL l, LfS x ∧ nmP x = true
  | [], _ => fun _ h => nomatch h
  | e :: l, h => fun x hx => by
    have hx' : x ∈ nmsE e ++ nmsL l := hx
    rcases List.mem_append.mp hx' with hx | hx
    · exact nms_ok e h.1 x hx
    · exact nmsL_ok l h.2 x hx
end
theorem in_v (S : Sto) (a : Bool) : inD false S (.str (rwS a)) (.tup [.str "set", .str "add", .str "chain"]) = some (.bl true, S) := by cases a <;> kernel_rfl
theorem in_p (S : Sto) (a : Bool) : inD false S (.str (rwS a)) (.tup [.str "set", .str "add"]) = some (.bl true, S) := by cases a <;> kernel_rfl
theorem in_ae (S : Sto) (a : Bool) : inD false S (.str (rwS a)) (.tup [.str "add", .str "exchange"]) = some (.bl a, S) := by cases a <;> kernel_rfl
theorem rw_do (a : Bool) : ¬ (rwS a = "do") := by cases a <;> decide +kernel
theorem rw_while (a : Bool) : ¬ (rwS a = "while") := by cases a <;> decide +kernel
theorem rw_if (a : Bool) : ¬ (rwS a = "if") := by cases a <;> decide +kernel
theorem rx0 (w : Rw) (S : Sto) : ixD S (rowD w) (.int 0) = some (.str (rwS w.a), S) := by unfold rowD; simp [at0]
theorem rx1 (w : Rw) (S : Sto) : ixD S (rowD w) (.int 1) = some (toD false w.p, S) := by unfold rowD; simp [at1]
theorem rx2 (w : Rw) (S : Sto) : ixD S (rowD w) (.int 2) = some (toD false w.e, S) := by unfold rowD; simp [at2]
theorem vals_ok (F : Nat) (w : Rw) (S : Sto) : calls (F + 1) .values_in S [rowD w] = .ok (.tup [toD false w.e]) S := by
  have r0 := rx0 w S
  have r2 := rx2 w S
  generalize rowD w = r at *
  generalize toD false w.e = d at *
  simp [ev_values_in, fb_values_in, r0, r2, rw_do, in_v]
theorem places_ok (F : Nat) (w : Rw) (S : Sto) : calls (F + 1) .places_in S [rowD w] = .ok (.tup [toD false w.p]) S := by
  have r0 := rx0 w S
  have r1 := rx1 w S
  generalize rowD w = r at *
  generalize toD false w.p = d at *
  simp [ev_places_in, fb_places_in, r0, r1, in_p]
def isNm : Ex → Bool
  | .lf _ _ => true
  | _ => false
theorem px0 {p : Ex} (h : isPl p = true) (S : Sto) : ∃ k, ixD S (toD false p) (.int 0) = some (.str k, S) ∧ decide (k = "name") = isNm p := by
  cases p with
  | lf w x =>
    cases w with
    | true => cases h
    | false => exact ⟨"name", by simp [toD, mkS, lfS, at0], by simp [isNm]⟩
  | call s l => cases h
  | nd sl l => exact ⟨ndS sl, by simp [toD, mkS, at0], by cases sl <;> simp [isNm, ndS, k_ni, k_ns]⟩
def rnS (w : Rw) : List Str := nmsE w.e ++ (if !isNm w.p || w.a then nmsE w.p else [])
theorem read_ok {F : Nat} {w : Rw} (h : RowOk w) (hF : 8 ≤ F) (S : Sto) : calls (F + 1) .read_in S [rowD w] = .ok (.lst ((rnS w).map .str)) S := by
  obtain ⟨G, rfl⟩ : ∃ G, F = G + 1 := ⟨F - 1, by omega⟩
  have h1 := h.hp
  have h2 := h.he
  have h3 := h.zp
  have h4 := h.ze
  have e1 := vals_ok G w S
  have e2 := places_ok G w S
  have e3 := an_ok (b := false) (G + 1) w.e (by omega) (by omega) S
  have e3p := an_ok (b := false) (G + 1) w.p (by omega) (by omega) S
  have hn := nms_len w.e
  have hnp := nms_len w.p
  have e4 : ∀ e2, qOwnM extD 1 [] e2 [.lst ((nmsE w.e).map .str)] S = .nx (e2.set 1 (.ow ([] ++ (nmsE w.e).map .str))) S := fun e2 => ext_ok (by simp only [List.length_map, List.length_nil]; omega)
  have e5 : ∀ e2, qOwnM extD 1 ((nmsE w.e).map .str) e2 [.lst ((nmsE w.p).map .str)] S = .nx (e2.set 1 (.ow ((nmsE w.e).map .str ++ (nmsE w.p).map .str))) S := fun e2 => ext_ok (by simp only [List.length_map]; omega)
  obtain ⟨k, k1, k2⟩ := px0 h.pl S
  have r0 := rx0 w S
  have ia := in_ae S w.a
  have hr : (rnS w).map Dv.str = (nmsE w.e).map Dv.str ++ (if !isNm w.p || w.a then (nmsE w.p).map Dv.str else []) := by
    unfold rnS
    rw [List.map_append]
    split <;> rfl
  rw [hr]
  clear hr
  generalize rowD w = r at *
  generalize toD false w.e = d at *
  generalize toD false w.p = dp at *
  generalize (nmsE w.e).map Dv.str = ns at *
  generalize (nmsE w.p).map Dv.str = np at *
  by_cases hk : k = "name"
  · have hn : isNm w.p = true := by rw [← k2]; simp [hk]
    rw [hn]
    cases ha : w.a with
    | false => simp [ha] at ia r0; simp [ev_read_in, fb_read_in, e1, e2, forR, gN, fb_read_in_l0, fb_read_in_l1, e3, e4, k1, hk, r0, ia]
    | true => simp [ha] at ia r0; simp [ev_read_in, fb_read_in, e1, e2, forR, gN, fb_read_in_l0, fb_read_in_l1, e3, e3p, e4, e5, k1, hk, r0, ia]
  · have hn : isNm w.p = false := by rw [← k2]; simp [hk]
    rw [hn]
    simp [ev_read_in, fb_read_in, e1, e2, forR, gN, fb_read_in_l0, fb_read_in_l1, e3, e3p, e4, e5, k1, hk]
theorem rnS_ok {w : Rw} (h : RowOk w) : ∀ x ∈ rnS w, LfS x ∧ nmP x = true := by
  intro x hx
  unfold rnS at hx
  rcases List.mem_append.mp hx with hx | hx
  · exact nms_ok w.e h.e x hx
  · split at hx
    · exact nms_ok w.p h.p x hx
    · cases hx
theorem uname_loop {F : Nat} (S : Sto) (s0 s1 s2 s3 s5 s6 s7 : Sl) : ∀ (ns : List Str) (s4 : Sl), (∀ x ∈ ns, LfS x ∧ nmP x = true) → ∃ z4, forR (gN 4) (fb_unset_in_l0 (calls (F + 2))) (ns.map .str) [s0, s1, s2, s3, s4, s5, s6, s7] S = .nx [s0, s1, s2, s3, z4, s5, s6, s7] S
  | [], s4, _ => ⟨s4, rfl⟩
  | x :: ns, s4, h => by
    obtain ⟨z, hz⟩ := uname_loop (F := F) S s0 s1 s2 s3 s5 s6 s7 ns (.va (.str x)) fun y hy => h y (List.mem_cons_of_mem _ hy)
    have hx := h x (List.mem_cons_self ..)
    have e1 := helper_s F x S hx.1.1.1
    rw [hlp_of hx.2] at e1
    exact ⟨z, by rw [List.map_cons, forR_nx (e2 := [s0, s1, s2, s3, .va (.str x), s5, s6, s7]) (S1 := S) rfl (by simp [fb_unset_in_l0, e1]), hz]⟩
theorem dput_s {e : Env} {S : Sto} {fi fv : DE} {v : Dv} {j : Nat} {x : Str} {d : List (Key × Dv)} (h1 : fv e S = .ok v S) (h2 : e[j]? = some (.od d)) (h3 : fi e S = .ok (.str x) S) (hl : d.length ≤ 1000) : sDPutO j fi fv e S = .nx (e.set j (.od (putD d (.inr x) v))) S := by
  unfold sDPutO sBind
  simp only [h1, h2]
  simp only [h3, dputO, keyD]
  rw [if_pos (by rw [sizeLine_eq]; omega)]
theorem put_len (l : List (Key × Dv)) (k : Key) (d : Dv) : (putD l k d).length ≤ l.length + 1 := by
  unfold putD
  split
  · simp
  · simp
theorem uplace {c : Fn → DF} {p : Ex} (hp : isPl p = true) (S : Sto) (s0 s2 s3 s4 s5 s6 s7 : Sl) (m : List (Key × Dv)) (hm : m.length ≤ 900) : ∃ m', m'.length ≤ m.length + 1 ∧ forR (gN 5) (fb_unset_in_l1 c) [toD false p] [s0, .od m, s2, s3, s4, s5, s6, s7] S = .nx [s0, .od m', s2, s3, s4, .va (toD false p), s6, s7] S := by
  obtain ⟨k, k1, k2⟩ := px0 hp S
  by_cases hk : k = "name"
  · have hn : isNm p = true := by rw [← k2]; simp [hk]
    cases p with
    | call s l => cases hp
    | nd sl l => cases hn
    | lf w x =>
      cases w with
      | true => cases hp
      | false =>
        refine ⟨putD m (.inr x) (.bl true), put_len .., ?_⟩
        have hb : fb_unset_in_l1 c [s0, .od m, s2, s3, s4, .va (toD false (.lf false x)), s6, s7] S = .nx [s0, .od (putD m (.inr x) (.bl true)), s2, s3, s4, .va (toD false (.lf false x)), s6, s7] S := by
          have i1 : ixD S (toD false (.lf false x)) (.int 1) = some (.str x, S) := by simp [toD, mkS, lfS, at1]
          have hd := dput_s (e := [s0, .od m, s2, s3, s4, .va (toD false (.lf false x)), s6, s7]) (S := S) (fi := eBin ixD (eVar 5) (eC (.int 1))) (fv := eC (.bl true)) (v := .bl true) (j := 1) (x := x) (d := m) rfl rfl (by generalize toD false (.lf false x) = d at *; simp [i1]) (by omega)
          unfold fb_unset_in_l1
          generalize toD false (.lf false x) = d at *
          generalize sDPutO 1 (eBin ixD (eVar 5) (eC (.int 1))) (eC (.bl true)) = Q at *
          simp [k1, hk, hd]
        rw [forR_nx rfl hb]; rfl
  · refine ⟨m, by omega, ?_⟩
    have hb : fb_unset_in_l1 c [s0, .od m, s2, s3, s4, .va (toD false p), s6, s7] S = .nx [s0, .od m, s2, s3, s4, .va (toD false p), s6, s7] S := by
      unfold fb_unset_in_l1
      generalize toD false p = d at *
      simp [k1, hk]
    rw [forR_nx rfl hb]; rfl
theorem urow_loop {F : Nat} (hF : 20 ≤ F) (S : Sto) (s0 s2 : Sl) : ∀ (es : List Rw) (m : List (Key × Dv)) (s3 s4 s5 s6 s7 : Sl), RowsOk es → m.length + es.length ≤ 900 → ∃ m' z3 z4 z5 z6 z7, forR (gN 3) (fb_unset_in_l2 (calls F)) (es.map rowD) [s0, .od m, s2, s3, s4, s5, s6, s7] S = .nx [s0, .od m', s2, z3, z4, z5, z6, z7] S
  | [], m, s3, s4, s5, s6, s7, _, _ => ⟨m, s3, s4, s5, s6, s7, rfl⟩
  | e :: es, m, s3, s4, s5, s6, s7, h, hm => by
    have he := h e (List.mem_cons_self ..)
    rw [List.length_cons] at hm
    obtain ⟨G, rfl⟩ : ∃ G, F = G + 2 := ⟨F - 2, by omega⟩
    obtain ⟨q4, hq⟩ := uname_loop (F := G) S s0 (.od m) s2 (.va (rowD e)) s5 s6 s7 (rnS e) s4 (rnS_ok he)
    obtain ⟨m1, hl1, hq2⟩ := uplace (c := calls (G + 2)) he.pl S s0 s2 (.va (rowD e)) q4 s5 s6 s7 m (by omega)
    obtain ⟨m', z3, z4, z5, z6, z7, hz⟩ := urow_loop hF S s0 s2 es m1 (.va (rowD e)) q4 (.va (toD false e.p)) s6 s7 (fun x hx => h x (List.mem_cons_of_mem _ hx)) (by omega)
    refine ⟨m', z3, z4, z5, z6, z7, ?_⟩
    have e1 : calls (G + 2) .read_in S [rowD e] = _ := read_ok (F := G + 1) he (by omega) S
    have e2 : calls (G + 2) .places_in S [rowD e] = _ := places_ok (G + 1) e S
    have e3 := rx0 e S
    have n1 := rw_while e.a
    have n2 := rw_if e.a
    rw [List.map_cons, forR_nx (e2 := [s0, .od m1, s2, .va (rowD e), q4, .va (toD false e.p), s6, s7]) (S1 := S) rfl ?_, hz]
    generalize rowD e = r at *
    generalize toD false e.p = dp at *
    generalize (rnS e).map Dv.str = ns at *
    simp [fb_unset_in_l2, e1, e2, hq, hq2, e3, n1, n2]
theorem unset_ok {F : Nat} (hF : 20 ≤ F) (S : Sto) {es : List Rw} (h : RowsOk es) (hl : es.length ≤ 100) : ∃ m, calls (F + 1) .unset_in S [.tup (es.map rowD), .dic [], .dic []] = .ok (.dic m) S := by
  obtain ⟨m, z3, z4, z5, z6, z7, hz⟩ := urow_loop hF S (.va (.tup (es.map rowD))) (.va (.dic [])) es [] .no .no .no .no .no h (by simp; omega)
  refine ⟨m, ?_⟩
  generalize es.map rowD = rs at *
  simp [ev_unset_in, fb_unset_in, hz]
def pgD (es : List Rw) : Dv := .obj "Program" [("held", .tup (es.map rowD))]
mutual
theorem noH_ex : ∀ e, noH (toD false e) = true
  | .lf w x => rfl
  | .call s l => by
    show noHs [.str "call", .str s, .tup (toDs false l)] = true
    have := noH_exs l
    simp [noHs, noH, this]
  | .nd sl l => by
    show noHs (.str (ndS sl) :: toDs false l) = true
    have := noH_exs l
    simp [noHs, noH, this]
theorem noH_exs : ∀ l, noHs (toDs false l) = true
  | [] => rfl
  | e :: l => by
    have h1 := noH_ex e
    have h2 := noH_exs l
    show noHs (toD false e :: toDs false l) = true
    simp [noHs, h1, h2]
end
theorem noH_rows : ∀ es : List Rw, noHs (es.map rowD) = true
  | [] => rfl
  | e :: l => by
    have h1 := noH_ex e.e
    have h3 := noH_ex e.p
    have h2 := noH_rows l
    simp [noHs, rowD, noH, h1, h2, h3]
theorem fldH_ok {c f : Str} {fo fv : DE} {e : Env} {S S1 S2 S3 : Sto} {v o : Dv} (h1 : fv e S = .ok v S1) (h2 : fo e S1 = .ok o S2) (h3 : setF c f S2 o v = some S3) : sFldH c f fo fv e S = .nx e S3 := by
  unfold sFldH sBind
  simp only [h1, h2, h3]
theorem pinit_ok {F : Nat} (hF : 29 ≤ F) {es : List Rw} (h : RowsOk es) (hl : es.length ≤ 100) : calls (F + 1) .Program_init [.ins "Program" []] [.hdl 0, .lst (es.map rowD)] = .ok .non [.ins "Program" [("held", .tup (es.map rowD))]] := by
  obtain ⟨G, rfl⟩ : ∃ G, F = G + 1 := ⟨F - 1, by omega⟩
  have e1 := fun S => first_ok (F := G) (by omega) h S
  have e2 := fun S => rows_at (F := G) (by omega) h hl S
  have e3 := fun S => unset_ok (F := G) (by omega) S h hl
  obtain ⟨mm, e3⟩ := e3 [.ins "Program" [("held", .tup (es.map rowD))]]
  generalize es.map rowD = rs at *
  have e4 : sFldH "Program" "held" (eVar 0) (eCall (calls (G + 1) .as_tuples) (aCons (eVar 1) aNil)) [.va (.hdl 0), .va (.lst rs), .va .non, .no] [.ins "Program" []] = .nx [.va (.hdl 0), .va (.lst rs), .va .non, .no] [.ins "Program" [("held", .tup rs)]] :=
    fldH_ok (v := .tup rs) (o := .hdl 0) (S1 := [.ins "Program" []]) (S2 := [.ins "Program" []]) (by simp [e2]) rfl (by kernel_rfl)
  have e5 : kFld "Program" "held" (.hdl 0) [.ins "Program" [("held", .tup rs)]] = .ok (.tup rs) [.ins "Program" [("held", .tup rs)]] := by kernel_rfl
  have e6 : ∀ S : Sto, truD S (.dic []) = some false := fun S => by kernel_rfl
  simp [ev_Program_init, fb_Program_init, e1, e4, e3, e5, e6]
theorem pmk_ok {F : Nat} (hF : 29 ≤ F) {es : List Rw} (h : RowsOk es) (hl : es.length ≤ 100) (S : Sto) : kMk "Program" (calls (F + 1) .Program_init) [.lst (es.map rowD)] S = .ok (pgD es) S := by
  have h1 := noH_rows es
  unfold kMk pgD
  rw [if_pos (by simp [noHs, noH, h1]), pinit_ok hF h hl]
  unfold kMkE
  simp only
  rw [if_pos ⟨trivial, by simp [noHf, noH, h1]⟩]
end DL
namespace DL
open PySem L2
abbrev Ws := Nat × List Dv
def mu (s : Ws) : Nat := s.1 + s.2.length
def boxD (s : Ws) : Dv := .int ((s.1 - 1 : Nat) : Int)
def numD (s : Ws) : Dv := .int (s.1 : Int)
def psh (s : Ws) (d : Dv) : Ws := (s.1 + 1, s.2 ++ [d])
def ap1 (s : Ws) (d : Dv) : Ws := (s.1, s.2 ++ [d])
def wst (W : Ex → Ws → Ws) (P : List Ex) (st : Ws × List Dv) (i : Nat) : Ws × List Dv := match P[i]? with
  | some e => (W e st.1, st.2.set i (boxD (W e st.1)))
  | none => st
def ordN (r : Bool) (n : Nat) : List Nat := if r then (List.range n).reverse else List.range n
def wall (W : Ex → Ws → Ws) (r : Bool) (P : List Ex) (s : Ws) : Ws × List Dv := (ordN r P.length).foldl (wst W P) (s, List.replicate P.length (.int 0))
def lfD (w : Bool) (x : Str) (s : Ws) : Dv := .tup [.str (if w then "word" else "read"), numD s, .str x]
def callD (s : Ws) (g : Str) (b : List Dv) : Dv := .tup [.str "call", .tup [numD s], .str g, .tup b]
def getD (s : Ws) (b : List Dv) : Dv := .tup (.str "get" :: numD s :: b)
/-- where a place is -/
inductive Spot where
  | nm (x : Str)
  | at (sl : Bool) (b : List Dv)
def sptD : Spot → Dv
  | .nm x => .tup [.str "name", .str x]
  | .at sl b => .tup [.str (ndS sl), .lst b]
def lookW (q : Spot) (s : Ws) : Ws := psh s (match q with
  | .nm x => lfD false x s
  | .at true b => callD s "cut" b
  | .at false b => getD s b)
def storeW (q : Spot) (v : Dv) (s : Ws) : Ws := ap1 s (match q with
  | .nm x => .tup [.str "write", .str x, v]
  | .at true b => .tup [.str "call", .tup [], .str "fill", .tup (b ++ [v])]
  | .at false b => .tup (.str "put" :: (b ++ [v])))
def wk (r : Bool) : Nat → Ex → Ws → Ws
  | 0, _, s => s
  | n + 1, .lf w x, s => psh s (lfD w x s)
  | n + 1, .call g l, s => psh (wall (wk r n) r l s).1 (callD (wall (wk r n) r l s).1 g (wall (wk r n) r l s).2)
  | n + 1, .nd sl l, s => lookW (.at sl (wall (wk r n) r l s).2) (wall (wk r n) r l s).1
def findW (r : Bool) (n : Nat) : Ex → Ws → Ws × Spot
  | .lf _ x, s => (s, .nm x)
  | .call _ _, s => (s, .nm "")
  | .nd sl l, s => ((wall (wk r n) r l s).1, .at sl (wall (wk r n) r l s).2)
theorem boxD_psh (s : Ws) (d : Dv) : boxD (psh s d) = numD s := by simp [boxD, numD, psh]
theorem psh_1 (s : Ws) (d : Dv) : (((psh s d).1 : Nat) : Int) = (s.1 : Int) + 1 := by simp [psh]
theorem psh_2 (s : Ws) (d : Dv) : (psh s d).2 = s.2 ++ [d] := rfl
def bst (X : Sto) (L : Dv) (n : Int) (M : List Dv) : Sto := X ++ [.ins "Builder" [("rules", L), ("made", .hdl (X.length + 1)), ("boxes", .int n)], .lst M]
section
variable (X : Sto) (L : Dv) (n : Int) (M : List Dv)
theorem bst_0 : (bst X L n M)[X.length]? = some (.ins "Builder" [("rules", L), ("made", .hdl (X.length + 1)), ("boxes", .int n)]) := by unfold bst; simp
theorem bst_1 : (bst X L n M)[X.length + 1]? = some (.lst M) := by unfold bst; simp
theorem bst_s0 (k : Int) : (bst X L n M).set X.length (.ins "Builder" [("rules", L), ("made", .hdl (X.length + 1)), ("boxes", .int k)]) = bst X L k M := by unfold bst; simp
theorem bst_s1 (M' : List Dv) : (bst X L n M).set (X.length + 1) (.lst M') = bst X L n M' := by unfold bst; simp
theorem kMeth_b {m : Str} {g : DF} {fa : DA} {e : Env} (h : (List.lookup m [(("rules" : Str), L), ("made", .hdl (X.length + 1)), ("boxes", .int n)]).isNone = true) : kMeth "Builder" m [] g fa e (.hdl X.length) (bst X L n M) = bnd (fa e (bst X L n M)) (kMe2 [] g (.hdl X.length)) := by
  simp only [kMeth, insOf, bst_0, h, and_self, if_true]; rfl
theorem fld_made : kFld "Builder" "made" (.hdl X.length) (bst X L n M) = .ok (.hdl (X.length + 1)) (bst X L n M) := by
  rw [kFld_hdl (h := bst_0 X L n M)]; kernel_rfl
theorem fld_rules : kFld "Builder" "rules" (.hdl X.length) (bst X L n M) = .ok L (bst X L n M) := by
  rw [kFld_hdl (h := bst_0 X L n M)]; kernel_rfl
theorem fld_boxes : kFld "Builder" "boxes" (.hdl X.length) (bst X L n M) = .ok (.int n) (bst X L n M) := by
  rw [kFld_hdl (h := bst_0 X L n M)]; kernel_rfl
theorem m_fresh {g : DF} {fa : DA} {e : Env} : kMeth "Builder" "fresh" [] g fa e (.hdl X.length) (bst X L n M) = bnd (fa e (bst X L n M)) (kMe2 [] g (.hdl X.length)) := kMeth_b X L n M (by kernel_rfl)
theorem m_read {g : DF} {fa : DA} {e : Env} : kMeth "Builder" "read" [] g fa e (.hdl X.length) (bst X L n M) = bnd (fa e (bst X L n M)) (kMe2 [] g (.hdl X.length)) := kMeth_b X L n M (by kernel_rfl)
theorem m_get_cell {g : DF} {fa : DA} {e : Env} : kMeth "Builder" "get_cell" [] g fa e (.hdl X.length) (bst X L n M) = bnd (fa e (bst X L n M)) (kMe2 [] g (.hdl X.length)) := kMeth_b X L n M (by kernel_rfl)
theorem m_call {g : DF} {fa : DA} {e : Env} : kMeth "Builder" "call" [] g fa e (.hdl X.length) (bst X L n M) = bnd (fa e (bst X L n M)) (kMe2 [] g (.hdl X.length)) := kMeth_b X L n M (by kernel_rfl)
theorem m_read_place {g : DF} {fa : DA} {e : Env} : kMeth "Builder" "read_place" [] g fa e (.hdl X.length) (bst X L n M) = bnd (fa e (bst X L n M)) (kMe2 [] g (.hdl X.length)) := kMeth_b X L n M (by kernel_rfl)
theorem m_find_place {g : DF} {fa : DA} {e : Env} : kMeth "Builder" "find_place" [] g fa e (.hdl X.length) (bst X L n M) = bnd (fa e (bst X L n M)) (kMe2 [] g (.hdl X.length)) := kMeth_b X L n M (by kernel_rfl)
theorem m_work_all {g : DF} {fa : DA} {e : Env} : kMeth "Builder" "work_all" [] g fa e (.hdl X.length) (bst X L n M) = bnd (fa e (bst X L n M)) (kMe2 [] g (.hdl X.length)) := kMeth_b X L n M (by kernel_rfl)
theorem m_in_parts {g : DF} {fa : DA} {e : Env} : kMeth "Builder" "in_parts" [] g fa e (.hdl X.length) (bst X L n M) = bnd (fa e (bst X L n M)) (kMe2 [] g (.hdl X.length)) := kMeth_b X L n M (by kernel_rfl)
theorem m_write_place {g : DF} {fa : DA} {e : Env} : kMeth "Builder" "write_place" [] g fa e (.hdl X.length) (bst X L n M) = bnd (fa e (bst X L n M)) (kMe2 [] g (.hdl X.length)) := kMeth_b X L n M (by kernel_rfl)
theorem m_work {g : DF} {fa : DA} {e : Env} : kMeth "Builder" "work" [] g fa e (.hdl X.length) (bst X L n M) = bnd (fa e (bst X L n M)) (kMe2 [] g (.hdl X.length)) := kMeth_b X L n M (by kernel_rfl)
theorem fresh_ok (f : Nat) : calls (f + 1) .Builder_fresh (bst X L n M) [.hdl X.length] = .ok (.int n) (bst X L (n + 1) M) := by
  have h1 : ∀ e : Env, kAugF addI "Builder" "boxes" (eC (.int 1)) e (.hdl X.length) (bst X L n M) = .nx e (bst X L (n + 1) M) := fun e => by
    have hl : List.lookup ("boxes" : Str) [(("rules" : Str), L), ("made", .hdl (X.length + 1)), ("boxes", .int n)] = some (.int n) := by kernel_rfl
    have hp : putFD "boxes" (.int (n + 1)) [(("rules" : Str), L), ("made", .hdl (X.length + 1)), ("boxes", .int n)] = [(("rules" : Str), L), ("made", .hdl (X.length + 1)), ("boxes", .int (n + 1))] := by kernel_rfl
    have ha : addI (.int n) (.int 1) = some (.int (n + 1)) := rfl
    unfold kAugF
    simp only [bst_0, hl, if_true, sBind, eC, augF, ha, setF, List.length_cons, List.length_nil, hp, bst_s0]
    rfl
  simp [ev_Builder_fresh, fb_Builder_fresh, h1, fld_boxes]
theorem app_ok {d : Dv} (h : M.length < 16000000) : hdlM appD (bst X L n M) (.hdl (X.length + 1)) [d] = .ok .non (bst X L n (M ++ [d])) := by
  rw [hdlM_app (h1 := bst_1 X L n M) (h2 := by rw [sizeLine_eq]; omega), bst_s1]
end
abbrev bs (X : Sto) (L : Dv) (s : Ws) : Sto := bst X L (s.1 : Int) s.2
section
variable (X : Sto) (L : Dv) (s : Ws)
theorem call_ok (f : Nat) (g : Str) (q : Dv) (b : List Dv) (hq : ∀ S, tupleD S [q] = some (.tup b, S)) (h : s.2.length < 16000000) : calls (f + 2) .Builder_call (bs X L s) [.hdl X.length, .str g, q] = .ok (boxD (psh s (callD s g b))) (bs X L (psh s (callD s g b))) := by
  have e1 := fresh_ok X L s.1 s.2 f
  have e2 : ∀ d, hdlM appD (bst X L ((s.1 : Int) + 1) s.2) (.hdl (X.length + 1)) [d] = _ := fun d => app_ok X L _ s.2 h
  unfold bs
  rw [boxD_psh, psh_1, psh_2]
  simp [ev_Builder_call, fb_Builder_call, m_fresh, e1, fld_made, bst_1, hq, e2, callD, numD]
theorem read_b (f : Nat) (x : Str) (h : s.2.length < 16000000) : calls (f + 2) .Builder_read (bs X L s) [.hdl X.length, .str x] = .ok (boxD (psh s (lfD false x s))) (bs X L (psh s (lfD false x s))) := by
  have e1 := fresh_ok X L s.1 s.2 f
  have e2 : ∀ d, hdlM appD (bst X L ((s.1 : Int) + 1) s.2) (.hdl (X.length + 1)) [d] = _ := fun d => app_ok X L _ s.2 h
  unfold bs
  rw [boxD_psh, psh_1, psh_2]
  simp [ev_Builder_read, fb_Builder_read, m_fresh, e1, fld_made, bst_1, e2, lfD, numD]
theorem get_b (f : Nat) (a c : Dv) (h : s.2.length < 16000000) : calls (f + 2) .Builder_get_cell (bs X L s) [.hdl X.length, a, c] = .ok (boxD (psh s (getD s [a, c]))) (bs X L (psh s (getD s [a, c]))) := by
  have e1 := fresh_ok X L s.1 s.2 f
  have e2 : ∀ d, hdlM appD (bst X L ((s.1 : Int) + 1) s.2) (.hdl (X.length + 1)) [d] = _ := fun d => app_ok X L _ s.2 h
  unfold bs
  rw [boxD_psh, psh_1, psh_2]
  simp [ev_Builder_get_cell, fb_Builder_get_cell, m_fresh, e1, fld_made, bst_1, e2, getD, numD]
end
end DL
namespace DL
open PySem L2
abbrev intN (i : Nat) : Dv := .int (i : Int)
theorem ord_lt {r : Bool} {n i : Nat} (h : i ∈ ordN r n) : i < n := by
  unfold ordN at h
  cases r <;> simpa using h
theorem ord_mem (r : Bool) {n i : Nat} (h : i < n) : i ∈ ordN r n := by
  unfold ordN
  cases r <;> simpa using h
theorem ord_len (r : Bool) (n : Nat) : (ordN r n).length = n := by
  unfold ordN
  cases r <;> simp
theorem rng_map (n : Nat) : rngD 0 n = (List.range n).map intN := by
  unfold rngD
  congr 1
  funext i
  simp [intN]
theorem wst_some {W : Ex → Ws → Ws} {P : List Ex} {i : Nat} {e : Ex} (h : P[i]? = some e) (st : Ws × List Dv) : wst W P st i = (W e st.1, st.2.set i (boxD (W e st.1))) := by unfold wst; rw [h]
theorem fold_len {W : Ex → Ws → Ws} {P : List Ex} {z : Nat} (hW : ∀ e ∈ P, ∀ s, mu (W e s) ≤ mu s + z) : ∀ (is : List Nat) (st : Ws × List Dv), mu (is.foldl (wst W P) st).1 ≤ mu st.1 + is.length * z
  | [], st => by simp
  | i :: is, st => by
    have ih := fold_len hW is (wst W P st i)
    rw [List.foldl_cons]
    refine Nat.le_trans ih ?_
    rw [List.length_cons, Nat.succ_mul]
    cases h : P[i]? with
    | none => have : wst W P st i = st := by unfold wst; rw [h]
              rw [this]; omega
    | some e =>
      have := hW e (List.mem_of_getElem? h) st.1
      rw [wst_some h]; simp only; omega
theorem fold_len2 {W : Ex → Ws → Ws} {P : List Ex} : ∀ (is : List Nat) (st : Ws × List Dv), (is.foldl (wst W P) st).2.length = st.2.length
  | [], st => rfl
  | i :: is, st => by
    rw [List.foldl_cons, fold_len2 is]
    unfold wst
    cases P[i]? with
    | none => rfl
    | some e => simp
def Zn : Nat → Nat
  | 0 => 0
  | n + 1 => 4 * Zn n + 2
theorem wall_len {W : Ex → Ws → Ws} {r : Bool} {P : List Ex} {z : Nat} (hP : P.length ≤ 4) (hW : ∀ e ∈ P, ∀ s, mu (W e s) ≤ mu s + z) (s : Ws) : mu (wall W r P s).1 ≤ mu s + 4 * z := by
  have := fold_len hW (ordN r P.length) (s, List.replicate P.length (.int 0))
  rw [ord_len] at this
  have h2 : P.length * z ≤ 4 * z := Nat.mul_le_mul_right _ hP
  unfold wall
  simp only at this
  omega
theorem wall_len2 {W : Ex → Ws → Ws} {r : Bool} {P : List Ex} (s : Ws) : (wall W r P s).2.length = P.length := by
  unfold wall
  rw [fold_len2]; simp
theorem ok_pt {e : Ex} (h : okE e) : (ptE e).length ≤ 4 ∧ okL (ptE e) := by
  cases e with
  | lf w x => exact ⟨by simp [ptE], trivial⟩
  | call s l => exact ⟨h.2.1, h.2.2⟩
  | nd sl l => exact ⟨by show l.length ≤ 4; rw [h.1]; cases sl <;> simp, h.2⟩
theorem ok_mem : ∀ {l : List Ex} {e : Ex}, okL l → e ∈ l → okE e
  | x :: l, e, h, hm => by
    rcases List.mem_cons.mp hm with rfl | hm
    · exact h.1
    · exact ok_mem h.2 hm
theorem mu_psh (s : Ws) (d : Dv) : mu (psh s d) = mu s + 2 := by simp [mu, psh]; omega
theorem mu_ap1 (s : Ws) (d : Dv) : mu (ap1 s d) = mu s + 1 := by simp [mu, ap1]; omega
theorem mu_look (q : Spot) (s : Ws) : mu (lookW q s) = mu s + 2 := mu_psh ..
theorem mu_store (q : Spot) (v : Dv) (s : Ws) : mu (storeW q v s) = mu s + 1 := mu_ap1 ..
theorem wk_len (r : Bool) : ∀ (n : Nat) (e : Ex) (s : Ws), okE e → mu (wk r n e s) ≤ mu s + Zn n
  | 0, e, s, _ => Nat.le_refl _
  | n + 1, .lf w x, s, _ => by
    show mu (psh s _) ≤ mu s + (4 * Zn n + 2)
    rw [mu_psh]; omega
  | n + 1, .call g l, s, h => by
    have := wall_len (W := wk r n) (r := r) h.2.1 (z := Zn n) (fun e he s => wk_len r n e s (ok_mem h.2.2 he)) s
    show mu (psh _ _) ≤ mu s + (4 * Zn n + 2)
    rw [mu_psh]; omega
  | n + 1, .nd sl l, s, h => by
    have := wall_len (W := wk r n) (r := r) (ok_pt (e := .nd sl l) h).1 (z := Zn n) (fun e he s => wk_len r n e s (ok_mem h.2 he)) s
    show mu (lookW _ _) ≤ mu s + (4 * Zn n + 2)
    rw [mu_look]
    have e2 : ptE (.nd sl l) = l := rfl
    rw [e2] at this
    omega
theorem find_len (r : Bool) (n : Nat) (p : Ex) (s : Ws) (h : okE p) : mu (findW r n p s).1 ≤ mu s + 4 * Zn n := by
  cases p with
  | lf w x => show mu s ≤ _; omega
  | call g l => show mu s ≤ _; omega
  | nd sl l => exact wall_len (W := wk r n) (r := r) (ok_pt (e := .nd sl l) h).1 (z := Zn n) (fun e he s => wk_len r n e s (ok_mem h.2 he)) s
theorem mu2 (s : Ws) : s.2.length ≤ mu s := by unfold mu; omega
theorem mu1 (s : Ws) : s.1 ≤ mu s := by unfold mu; omega
theorem at_toDs {P : List Ex} {i : Nat} {e : Ex} (h : P[i]? = some e) : atI (toDs false P) (i : Int) = some (toD false e) := by
  rw [atI_nat', toDs_map, List.getElem?_map, h]; rfl
def BWk (f : Nat) (X : Sto) (L : Dv) (W : Ex → Ws → Ws) (z : Nat) (e : Ex) : Prop := ∀ M, mu M + z ≤ 15000000 → calls f .Builder_work (bs X L M) [.hdl X.length, toD false e] = .ok (boxD (W e M)) (bs X L (W e M))
theorem loop_b {f : Nat} {X : Sto} {L : Dv} {W : Ex → Ws → Ws} {P : List Ex} {z : Nat} (hW : ∀ e ∈ P, BWk f X L W z e) (hl : ∀ e ∈ P, ∀ M, mu (W e M) ≤ mu M + z) :
    ∀ (is : List Nat) (M : Ws) (b : List Dv) (s3 : Sl), (∀ i ∈ is, i < P.length) → b.length = P.length → mu M + is.length * z ≤ 15000000 →
    ∃ z3, forR (gN 3) (fb_Builder_work_all_l0 (calls f)) (is.map intN) [.va (.hdl X.length), .va (.tup (toDs false P)), .ow b, s3] (bs X L M) = .nx [.va (.hdl X.length), .va (.tup (toDs false P)), .ow (is.foldl (wst W P) (M, b)).2, z3] (bs X L (is.foldl (wst W P) (M, b)).1)
  | [], M, b, s3, _, _, _ => ⟨s3, rfl⟩
  | i :: is, M, b, s3, hi, hb, hM => by
    have h0 := hi i (List.mem_cons_self ..)
    have he : P[i]? = some P[i] := List.getElem?_eq_getElem h0
    generalize P[i] = e at he
    have hm := List.mem_of_getElem? he
    rw [List.length_cons, Nat.succ_mul] at hM
    have e1 := hW e hm M (by omega)
    have l1 := hl e hm M
    obtain ⟨z3, hz⟩ := loop_b hW hl is (W e M) (b.set i (boxD (W e M))) (.va (intN i)) (fun j hj => hi j (List.mem_cons_of_mem _ hj)) (by simp [hb]) (by omega)
    refine ⟨z3, ?_⟩
    have e2 := at_toDs he
    have e3 : ixN b.length (i : Int) = some i := by
      have := ixN_ok (m := b.length) (n := (i : Int)) (by omega) (by omega)
      simpa using this
    rw [List.map_cons, forR_nx (e2 := [.va (.hdl X.length), .va (.tup (toDs false P)), .ow (b.set i (boxD (W e M))), .va (intN i)]) (S1 := bs X L (W e M)) rfl ?_, List.foldl_cons, wst_some he]
    · exact hz
    · generalize toDs false P = ps at *
      generalize toD false e = d at *
      simp [fb_Builder_work_all_l0, m_work, e2, e1, e3]
def sideS (r : Bool) : Str := if r then "right" else "left"
theorem k_lr : ¬ (("left" : Str) = "right") := by decide +kernel
theorem in_parts_ok {f : Nat} {X : Sto} {L : Dv} {r : Bool} (hp : ∀ S, kFld "Language" "parts" L S = .ok (.str (sideS r)) S) (M : Ws) (n : Nat) (hn : n ≤ 100) : calls (f + 1) .Builder_in_parts (bs X L M) [.hdl X.length, .int (n : Int)] = .ok (.lst ((ordN r n).map intN)) (bs X L M) := by
  have e1 := fun S => rngK1_ok S (n : Int) (by omega)
  simp only [Int.toNat_natCast, rng_map] at e1
  have e2 : ∀ (l : List Dv) (e : Env) (S : Sto), qOwnM revM 2 l e [] S = .nx (e.set 2 (.ow l.reverse)) S := fun l e S => rfl
  have e4 : (ordN r n).map intN = if r then ((List.range n).map intN).reverse else (List.range n).map intN := by
    unfold ordN
    cases r <;> simp
  rw [e4]
  clear e4
  generalize (List.range n).map intN = R at *
  generalize (n : Int) = m at *
  cases r with
  | false => simp [ev_Builder_in_parts, fb_Builder_in_parts, e1, fld_rules, hp, sideS, k_lr]
  | true => simp [ev_Builder_in_parts, fb_Builder_in_parts, e1, fld_rules, hp, sideS, e2]
theorem rep_cond (n : Nat) (h : n ≤ 4) : -(2 ^ 63) ≤ (n : Int) ∧ (n : Int) < 2 ^ 63 ∧ [Dv.int 0].length * ((n : Int)).toNat ≤ sizeLine := by
  rw [Int.toNat_natCast, sizeLine_eq, List.length_singleton]
  omega
theorem rep_zero (n : Nat) (h : n ≤ 4) (S : Sto) : kRepL [.int 0] (.int (n : Int)) S = .ok (List.replicate n (.int 0)) S := by
  unfold kRepL
  simp only
  rw [if_pos (rep_cond n h), Int.toNat_natCast, List.flatten_replicate_singleton]
theorem work_all_b {f : Nat} {X : Sto} {L : Dv} {r : Bool} (hp : ∀ S, kFld "Language" "parts" L S = .ok (.str (sideS r)) S) {W : Ex → Ws → Ws} {P : List Ex} {z : Nat} (hP : P.length ≤ 4) (hW : ∀ e ∈ P, BWk (f + 1) X L W z e) (hl : ∀ e ∈ P, ∀ M, mu (W e M) ≤ mu M + z) (M : Ws) (hM : mu M + 4 * z ≤ 15000000) :
    calls (f + 2) .Builder_work_all (bs X L M) [.hdl X.length, .tup (toDs false P)] = .ok (.lst (wall W r P M).2) (bs X L (wall W r P M).1) := by
  have e1 := in_parts_ok (f := f) hp M P.length (by omega) (X := X)
  have e0 : (toDs false P).length = P.length := toDs_len false P
  have h2 : P.length * z ≤ 4 * z := Nat.mul_le_mul_right _ hP
  obtain ⟨z3, hz⟩ := loop_b hW hl (ordN r P.length) M (List.replicate P.length (.int 0)) .no (fun i hi => ord_lt hi) (by simp) (by rw [ord_len]; omega)
  have e3 : ∀ S, kRepL [.int 0] (.int (P.length : Int)) S = .ok (List.replicate P.length (.int 0)) S := fun S => rep_zero P.length (by omega) S
  have el : ∀ S, kLst [Dv.int 0] S = .ok [Dv.int 0] S := fun S => kLst_ok _ _ (line_le _ (by simp))
  unfold wall
  generalize (ordN r P.length).foldl (wst W P) (M, List.replicate P.length (.int 0)) = R at *
  generalize (ordN r P.length).map intN = is at *
  generalize List.replicate P.length (Dv.int 0) = zz at *
  generalize toDs false P = ps at *
  generalize hn : (P.length : Int) = nn at *
  have e5 : ∀ S, lenD S [.tup ps] = some (.int nn, S) := fun S => by rw [len_tup, e0, hn]
  clear e0 hn h2 hM hP hW hl
  have m1 : ∀ {g : DF} {fa : DA} {e : Env}, kMeth "Builder" "in_parts" [] g fa e (.hdl X.length) (bs X L M) = bnd (fa e (bs X L M)) (kMe2 [] g (.hdl X.length)) := fun {g fa e} => m_in_parts X L _ M.2
  generalize bs X L M = S0 at *
  have q1 : fRep (eFrz (fLst (aCons (eC (.int 0)) aNil))) (eCB lenD (aCons (eVar 1) aNil)) [.va (.hdl X.length), .va (.tup ps), .no, .no] S0 = .ok zz S0 := by
    have a1 : (eFrz (fLst (aCons (eC (.int 0)) aNil))) [.va (.hdl X.length), .va (.tup ps), .no, .no] S0 = .ok (.lst [.int 0]) S0 := by simp [el]
    have a2 : (eCB lenD (aCons (eVar 1) aNil)) [.va (.hdl X.length), .va (.tup ps), .no, .no] S0 = .ok (.int nn) S0 := by simp [e5, -len_tup]
    rw [ev_fRep, a1, bnd_ok, kRepA_lst, a2, bnd_ok, e3]
  rw [ev_Builder_work_all, fb_Builder_work_all]
  generalize fRep (eFrz (fLst (aCons (eC (.int 0)) aNil))) (eCB lenD (aCons (eVar 1) aNil)) = Q at *
  clear e3
  simp [q1, m1, e5, -len_tup, e1, hz]
end DL
namespace DL
open PySem L2
theorem k_is : ¬ (("slice" : Str) = "item") := by decide +kernel
theorem k_ws : ¬ (("slice" : Str) = "word") := by decide +kernel
theorem k_wi : ¬ (("item" : Str) = "word") := by decide +kernel
theorem k_wc : ¬ (("call" : Str) = "word") := by decide +kernel
theorem sAsg_m {i k : Nat} {m : Str} {g : DF} {fa : DA} {e : Env} {S S0 S1 : Sto} {as : List Dv} {v : Dv} (hm : kMeth "Builder" m [] g fa e (.hdl k) S = bnd (fa e S) (kMe2 [] g (.hdl k))) (he : e[0]? = some (.va (.hdl k))) (ha : fa e S = .ok as S0) (hg : g S0 (.hdl k :: as) = .ok v S1) : sAsg i (eMeth "Builder" m [] g (eVar 0) fa) e S = .nx (e.set i (.va v)) S1 := by
  simp [he, hm, ha, hg]
theorem sExpr_m {k : Nat} {m : Str} {g : DF} {fa : DA} {e : Env} {S S0 S1 : Sto} {as : List Dv} {v : Dv} (hm : kMeth "Builder" m [] g fa e (.hdl k) S = bnd (fa e S) (kMe2 [] g (.hdl k))) (he : e[0]? = some (.va (.hdl k))) (ha : fa e S = .ok as S0) (hg : g S0 (.hdl k :: as) = .ok v S1) : sExpr (eMeth "Builder" m [] g (eVar 0) fa) e S = .nx e S1 := by
  simp [he, hm, ha, hg]
theorem sRet_m {k : Nat} {m : Str} {g : DF} {fa : DA} {e : Env} {S S0 S1 : Sto} {as : List Dv} {v : Dv} (hm : kMeth "Builder" m [] g fa e (.hdl k) S = bnd (fa e S) (kMe2 [] g (.hdl k))) (he : e[0]? = some (.va (.hdl k))) (ha : fa e S = .ok as S0) (hg : g S0 (.hdl k :: as) = .ok v S1) : sRet (eMeth "Builder" m [] g (eVar 0) fa) e S = .rt v S1 := by
  simp [he, hm, ha, hg]
theorem eM_ok {k : Nat} {m : Str} {g : DF} {fa : DA} {e : Env} {S S0 S1 : Sto} {as : List Dv} {v : Dv} (hm : kMeth "Builder" m [] g fa e (.hdl k) S = bnd (fa e S) (kMe2 [] g (.hdl k))) (he : e[0]? = some (.va (.hdl k))) (ha : fa e S = .ok as S0) (hg : g S0 (.hdl k :: as) = .ok v S1) : eMeth "Builder" m [] g (eVar 0) fa e S = .ok v S1 := by
  simp [he, hm, ha, hg]
theorem a1_ok {f1 : DE} {e : Env} {S S1 : Sto} {a : Dv} (h1 : f1 e S = .ok a S1) : (aCons f1 aNil) e S = .ok [a] S1 := by simp [h1]
theorem a2_ok {f1 f2 : DE} {e : Env} {S S1 S2 : Sto} {a b : Dv} (h1 : f1 e S = .ok a S1) (h2 : f2 e S1 = .ok b S2) : (aCons f1 (aCons f2 aNil)) e S = .ok [a, b] S2 := by simp [h1, h2]
theorem a3_ok {f1 f2 f3 : DE} {e : Env} {S S1 S2 S3 : Sto} {a b c : Dv} (h1 : f1 e S = .ok a S1) (h2 : f2 e S1 = .ok b S2) (h3 : f3 e S2 = .ok c S3) : (aCons f1 (aCons f2 (aCons f3 aNil))) e S = .ok [a, b, c] S3 := by simp [h1, h2, h3]
theorem eV {i : Nat} {e : Env} {S : Sto} {d : Dv} (h : e[i]? = some (.va d)) : eVar i e S = .ok d S := by simp [h]
theorem eIx {f : DE} {e : Env} {S S1 : Sto} {d q : Dv} {n : Int} (h : f e S = .ok d S1) (hx : ixD S1 d (.int n) = some (q, S1)) : eBin ixD f (eC (.int n)) e S = .ok q S1 := by simp [h, hx]
section
variable {X : Sto} {L : Dv}
theorem word_b (f : Nat) (x : Str) (s : Ws) (h : s.2.length < 16000000) : calls (f + 2) .Builder_work (bs X L s) [.hdl X.length, .tup [.str "word", .str x]] = .ok (boxD (psh s (lfD true x s))) (bs X L (psh s (lfD true x s))) := by
  have e1 := fresh_ok X L s.1 s.2 f
  have e2 : ∀ d, hdlM appD (bst X L ((s.1 : Int) + 1) s.2) (.hdl (X.length + 1)) [d] = _ := fun d => app_ok X L _ s.2 h
  unfold bs
  rw [boxD_psh, psh_1, psh_2]
  simp [ev_Builder_work, fb_Builder_work, at0, at1, k_nw, m_fresh, e1, fld_made, bst_1, e2, lfD, numD]
theorem name_b (f : Nat) (x : Str) (s : Ws) (h : s.2.length < 16000000) : calls (f + 3) .Builder_work (bs X L s) [.hdl X.length, .tup [.str "name", .str x]] = .ok (boxD (psh s (lfD false x s))) (bs X L (psh s (lfD false x s))) := by
  have e1 := read_b X L s f x h
  unfold bs
  simp [ev_Builder_work, fb_Builder_work, at0, at1, m_read, e1]
theorem cw_3 (F G H I : DS) (s : Str) (ps : List Dv) (bx h : Dv) (S S1 : Sto) (hF : F [.va h, .va (.tup [.str "call", .str s, .tup ps]), .no] S = .rt bx S1) :
   kRun ((sSeq (sIf (tVal (eBin eqE (eBin ixD (eVar 1) (eC (.int 0))) (eC (.str "name")))) G sNil) (sSeq (sIf (tVal (eBin eqE (eBin ixD (eVar 1) (eC (.int 0))) (eC (.str "word")))) H sNil) (sSeq (sIf (tVal (eBin eqE (eBin ixD (eVar 1) (eC (.int 0))) (eC (.str "call")))) F sNil) I))) [.va h, .va (.tup [.str "call", .str s, .tup ps]), .no] S) = .ok bx S1 := by
  simp [at0, k_nc, k_wc, hF]
theorem callw_b (f : Nat) (g : Str) (ps b : List Dv) (s1 s : Ws) (ha : calls (f + 2) .Builder_work_all (bs X L s) [.hdl X.length, .tup ps] = .ok (.lst b) (bs X L s1)) (h : s1.2.length < 16000000) : calls (f + 3) .Builder_work (bs X L s) [.hdl X.length, .tup [.str "call", .str g, .tup ps]] = .ok (boxD (psh s1 (callD s1 g b))) (bs X L (psh s1 (callD s1 g b))) := by
  have e1 := call_ok X L s1 f g (.lst b) b (fun _ => rfl) h
  rw [ev_Builder_work, fb_Builder_work]
  refine cw_3 _ _ _ _ g ps _ _ _ _ (sRet_m (m_call X L s.1 s.2) rfl (a2_ok (eIx (eV rfl) ?_) (eM_ok (m_work_all X L s.1 s.2) rfl (a1_ok (eIx (eV rfl) ?_)) ha)) e1)
  · simp [at1]
  · simp [at2]
theorem find_b (f : Nat) (sl : Bool) (ps b : List Dv) (s1 s : Ws) (ha : calls f .Builder_work_all (bs X L s) [.hdl X.length, .tup ps] = .ok (.lst b) (bs X L s1)) : calls (f + 1) .Builder_find_place (bs X L s) [.hdl X.length, .tup (.str (ndS sl) :: ps)] = .ok (.tup [.str (ndS sl), .lst b]) (bs X L s1) := by
  unfold bs at *
  cases sl <;> simp [ev_Builder_find_place, fb_Builder_find_place, ndS, at0, k_ni, k_ns, m_work_all, cut1, ha]
theorem findn_b (f : Nat) (x : Str) (S : Sto) (h : Dv) : calls (f + 1) .Builder_find_place S [h, .tup [.str "name", .str x]] = .ok (.tup [.str "name", .str x]) S := by
  simp [ev_Builder_find_place, fb_Builder_find_place, at0]
def SpOk : Spot → Prop
  | .nm _ => True
  | .at sl b => b.length = if sl then 3 else 2
theorem look_b (f : Nat) (q : Spot) (s : Ws) (hq : SpOk q) (h : s.2.length < 16000000) : calls (f + 3) .Builder_read_place (bs X L s) [.hdl X.length, sptD q] = .ok (boxD (lookW q s)) (bs X L (lookW q s)) := by
  cases q with
  | nm x =>
    have e1 := read_b X L s f x h
    show _ = Res.ok (boxD (psh s (lfD false x s))) (bs X L (psh s (lfD false x s)))
    unfold bs at *
    simp [sptD, ev_Builder_read_place, fb_Builder_read_place, at0, at1, m_read, e1]
  | «at» sl b =>
    cases sl with
    | true =>
      have e1 := call_ok X L s f "cut" (.lst b) b (fun _ => rfl) h
      show _ = Res.ok (boxD (psh s (callD s "cut" b))) (bs X L (psh s (callD s "cut" b)))
      unfold bs at *
      simp [sptD, ndS, ev_Builder_read_place, fb_Builder_read_place, at0, at1, k_ns, k_is, m_call, e1]
    | false =>
      have hq : b.length = 2 := hq
      match b, hq with
      | [a, c], _ =>
        have e1 := get_b X L s f a c h
        show _ = Res.ok (boxD (psh s (getD s [a, c]))) (bs X L (psh s (getD s [a, c])))
        unfold bs at *
        simp [sptD, ndS, ev_Builder_read_place, fb_Builder_read_place, at0, at1, k_ni, m_get_cell, e1]
theorem store_b (f : Nat) (q : Spot) (v : Dv) (s : Ws) (hq : SpOk q) (h : s.2.length < 16000000) : calls (f + 1) .Builder_write_place (bs X L s) [.hdl X.length, sptD q, v] = .ok .non (bs X L (storeW q v s)) := by
  have e2 : ∀ d, hdlM appD (bst X L (s.1 : Int) s.2) (.hdl (X.length + 1)) [d] = _ := fun d => app_ok X L _ s.2 h
  cases q with
  | nm x =>
    show _ = Res.ok Dv.non (bst X L s.1 (s.2 ++ [.tup [.str "write", .str x, v]]))
    unfold bs at *
    simp [sptD, ev_Builder_write_place, fb_Builder_write_place, at0, at1, fld_made, bst_1, e2]
  | «at» sl b =>
    cases sl with
    | true =>
      have hq : b.length = 3 := hq
      have e4 : ∀ S, addD S (.tup b) (.tup [v]) = some (.tup (b ++ [v]), S) := fun S => op_add_t S b [v] (by rw [sizeLine_eq, hq]; simp)
      show _ = Res.ok Dv.non (bst X L s.1 (s.2 ++ [.tup [.str "call", .tup [], .str "fill", .tup (b ++ [v])]]))
      unfold bs at *
      simp [sptD, ndS, ev_Builder_write_place, fb_Builder_write_place, at0, at1, k_ns, k_is, fld_made, bst_1, e4, e2]
    | false =>
      have hq : b.length = 2 := hq
      match b, hq with
      | [a, c], _ =>
        show _ = Res.ok Dv.non (bst X L s.1 (s.2 ++ [.tup [.str "put", a, c, v]]))
        unfold bs at *
        simp [sptD, ndS, ev_Builder_write_place, fb_Builder_write_place, at0, at1, k_ni, fld_made, bst_1, e2]
theorem ndw_b (f : Nat) (sl : Bool) (ps b : List Dv) (s1 s : Ws) (ha : calls (f + 2) .Builder_work_all (bs X L s) [.hdl X.length, .tup ps] = .ok (.lst b) (bs X L s1)) (hb : SpOk (.at sl b)) (h : s1.2.length < 16000000) :
    calls (f + 4) .Builder_work (bs X L s) [.hdl X.length, .tup (.str (ndS sl) :: ps)] = .ok (boxD (lookW (.at sl b) s1)) (bs X L (lookW (.at sl b) s1)) := by
  have e1 := find_b (f + 2) sl ps b s1 s ha
  have hr : calls (f + 3) .Builder_read_place (bs X L s1) [.hdl X.length, .tup [.str (ndS sl), .lst b]] = _ := look_b f (.at sl b) s1 hb h
  generalize lookW (.at sl b) s1 = s2 at *
  have m1 : ∀ {g : DF} {fa : DA} {e : Env}, kMeth "Builder" "find_place" [] g fa e (.hdl X.length) (bs X L s) = bnd (fa e (bs X L s)) (kMe2 [] g (.hdl X.length)) := fun {g fa e} => m_find_place X L s.1 s.2
  have m2 : ∀ {g : DF} {fa : DA} {e : Env}, kMeth "Builder" "read_place" [] g fa e (.hdl X.length) (bs X L s) = bnd (fa e (bs X L s)) (kMe2 [] g (.hdl X.length)) := fun {g fa e} => m_read_place X L s.1 s.2
  generalize bs X L s = S0 at *
  generalize bs X L s1 = S1 at *
  generalize bs X L s2 = S2 at *
  generalize boxD s2 = bx at *
  cases sl
  · simp only [ndS, Bool.false_eq_true, if_false] at *
    simp [ev_Builder_work, fb_Builder_work, at0, k_ni, k_ci, k_wi, m1, m2, e1, hr]
  · simp only [ndS, if_true] at *
    simp [ev_Builder_work, fb_Builder_work, at0, k_ns, k_cs, k_ws, m1, m2, e1, hr]
theorem work_b {r : Bool} (hp : ∀ S, kFld "Language" "parts" L S = .ok (.str (sideS r)) S) : ∀ (n : Nat) (e : Ex) (f : Nat), okE e → htE e < n → 3 * n + 1 ≤ f → BWk f X L (wk r n) (Zn n) e
  | 0, e, f, _, h, _ => absurd h (Nat.not_lt_zero _)
  | n + 1, e, f, h, hn, hf => by
    intro M hM
    have hz : Zn (n + 1) = 4 * Zn n + 2 := rfl
    rw [hz] at hM
    have h2m := mu2 M
    cases e with
    | lf w x =>
      cases w with
      | false =>
        obtain ⟨g, rfl⟩ : ∃ g, f = g + 3 := ⟨f - 3, by omega⟩
        exact name_b g x M (by omega)
      | true =>
        obtain ⟨g, rfl⟩ : ∃ g, f = g + 2 := ⟨f - 2, by omega⟩
        exact word_b g x M (by omega)
    | call s l =>
      obtain ⟨g, rfl⟩ : ∃ g, f = g + 3 := ⟨f - 3, by omega⟩
      have hn' : htL l + 1 < n + 1 := hn
      have hk : ∀ e ∈ l, ∀ M, mu (wk r n e M) ≤ mu M + Zn n := fun e he M => wk_len r n e M (ok_mem h.2.2 he)
      have ha := work_all_b (f := g) (X := X) hp (W := wk r n) (P := l) (z := Zn n) h.2.1 (fun e he => work_b hp n e (g + 1) (ok_mem h.2.2 he) (by have := ht_mem he; omega) (by omega)) hk M (by omega)
      have hl := wall_len (W := wk r n) (r := r) h.2.1 hk M
      have := mu2 (wall (wk r n) r l M).1
      exact callw_b g s (toDs false l) _ _ M ha (by omega)
    | nd sl l =>
      obtain ⟨g, rfl⟩ : ∃ g, f = g + 4 := ⟨f - 4, by omega⟩
      have hn' : htL l + 1 < n + 1 := hn
      have hP : l.length ≤ 4 := (ok_pt (e := .nd sl l) h).1
      have hk : ∀ e ∈ l, ∀ M, mu (wk r n e M) ≤ mu M + Zn n := fun e he M => wk_len r n e M (ok_mem h.2 he)
      have ha := work_all_b (f := g) (X := X) hp (W := wk r n) (P := l) (z := Zn n) hP (fun e he => work_b hp n e (g + 1) (ok_mem h.2 he) (by have := ht_mem he; omega) (by omega)) hk M (by omega)
      have hl := wall_len (W := wk r n) (r := r) hP hk M
      have := mu2 (wall (wk r n) r l M).1
      have h2 := wall_len2 (W := wk r n) (r := r) (P := l) M
      have h3 : l.length = if sl = true then 3 else 2 := h.1
      exact ndw_b g sl (toDs false l) _ _ M ha (h2.trans h3) (by omega)
theorem find_ok' {r : Bool} {n : Nat} {p : Ex} {s : Ws} (h : okE p) : SpOk (findW r n p s).2 := by
  cases p with
  | lf w x => trivial
  | call g l => trivial
  | nd sl l => exact (wall_len2 (W := wk r n) (r := r) (P := l) s).trans h.1
theorem findp_b {r : Bool} (hp : ∀ S, kFld "Language" "parts" L S = .ok (.str (sideS r)) S) {n : Nat} {p : Ex} {f : Nat} (h : okE p) (hpl : isPl p = true) (hn : htE p ≤ n) (hf : 3 * n + 3 ≤ f) (s : Ws) (hM : mu s + 4 * Zn n ≤ 15000000) : calls f .Builder_find_place (bs X L s) [.hdl X.length, toD false p] = .ok (sptD (findW r n p s).2) (bs X L (findW r n p s).1) := by
  cases p with
  | lf w x =>
    cases w with
    | true => cases hpl
    | false =>
      obtain ⟨g, rfl⟩ : ∃ g, f = g + 1 := ⟨f - 1, by omega⟩
      exact findn_b g x _ _
  | call g l => cases hpl
  | nd sl l =>
    obtain ⟨g, rfl⟩ : ∃ g, f = g + 3 := ⟨f - 3, by omega⟩
    have hn' : htL l + 1 ≤ n := hn
    have hP : l.length ≤ 4 := (ok_pt (e := .nd sl l) h).1
    have hk : ∀ e ∈ l, ∀ M, mu (wk r n e M) ≤ mu M + Zn n := fun e he M => wk_len r n e M (ok_mem h.2 he)
    have ha := work_all_b (f := g) (X := X) hp (W := wk r n) (P := l) (z := Zn n) hP (fun e he => work_b hp n e (g + 1) (ok_mem h.2 he) (by have := ht_mem he; omega) (by omega)) hk s (by omega)
    exact find_b (g + 2) sl (toDs false l) _ _ s ha
end
end DL
namespace DL
open PySem L2
inductive T3 where | a | b | c
deriving DecidableEq
inductive T4 where | a | b | c | d
deriving DecidableEq
def aS : T4 → Str | .a => "early" | .b => "late" | .c => "last" | .d => "twice"
def sS : Bool → Str | false => "first" | true => "last"
def addE (p e : Ex) : Ex := .call "add" [p, e]
def setW (sl r : Bool) (p e : Ex) (s : Ws) : Ws := if sl then storeW (findW r 3 p (wk r 5 e s)).2 (boxD (wk r 5 e s)) (findW r 3 p (wk r 5 e s)).1 else storeW (findW r 3 p s).2 (boxD (wk r 5 e (findW r 3 p s).1)) (wk r 5 e (findW r 3 p s).1)
def cadd (s : Ws) (o v : Dv) : Ws := psh s (callD s "add" [o, v])
def addLast (r : Bool) (p e : Ex) (s : Ws) : Ws :=
  let s1 := wk r 5 e s
  let q := findW r 3 p s1
  let s2 := lookW q.2 q.1
  let s3 := cadd s2 (boxD s2) (boxD s1)
  storeW q.2 (boxD s3) s3
def addLate (r : Bool) (p e : Ex) (s : Ws) : Ws :=
  let q := findW r 3 p s
  let s1 := wk r 5 e q.1
  let s2 := lookW q.2 s1
  let s3 := cadd s2 (boxD s2) (boxD s1)
  storeW q.2 (boxD s3) s3
def addEarly (r : Bool) (p e : Ex) (s : Ws) : Ws :=
  let q := findW r 3 p s
  let s2 := lookW q.2 q.1
  let s1 := wk r 5 e s2
  let s3 := cadd s1 (boxD s2) (boxD s1)
  storeW q.2 (boxD s3) s3
def addW (ad : T4) (sl r : Bool) (p e : Ex) (s : Ws) : Ws := match ad with
  | .a => addEarly r p e s
  | .b => addLate r p e s
  | .c => addLast r p e s
  | .d => setW sl r p (addE p e) s
def rwW (ad : T4) (sl r : Bool) (w : Rw) (s : Ws) : Ws := if w.a then addW ad sl r w.p w.e s else setW sl r w.p w.e s
theorem zn3 : Zn 3 = 42 := by decide
theorem zn5 : Zn 5 = 682 := by decide
theorem mu_cadd (s : Ws) (o v : Dv) : mu (cadd s o v) = mu s + 2 := mu_psh ..
theorem setW_len (sl r : Bool) {p e : Ex} (s : Ws) (hp : okE p) (he : okE e) : mu (setW sl r p e s) ≤ mu s + 851 := by
  have z3 := zn3
  have z5 := zn5
  unfold setW
  cases sl with
  | true =>
    have h1 := wk_len r 5 e s he
    have h2 := find_len r 3 p (wk r 5 e s) hp
    rw [if_pos rfl, mu_store]; omega
  | false =>
    have h2 := find_len r 3 p s hp
    have h1 := wk_len r 5 e (findW r 3 p s).1 he
    rw [if_neg Bool.false_ne_true, mu_store]; omega
theorem ok_add {p e : Ex} (hp : okE p) (he : okE e) : okE (addE p e) := ⟨⟨strB_ok (by decide +kernel), by decide +kernel⟩, by simp, hp, he, trivial⟩
theorem add_len (ad : T4) (sl r : Bool) {p e : Ex} (s : Ws) (hp : okE p) (he : okE e) : mu (addW ad sl r p e s) ≤ mu s + 900 := by
  have z3 := zn3
  have z5 := zn5
  cases ad with
  | a =>
    have h1 := find_len r 3 p s hp
    have h2 := mu_look (findW r 3 p s).2 (findW r 3 p s).1
    have h3 := wk_len r 5 e (lookW (findW r 3 p s).2 (findW r 3 p s).1) he
    show mu (storeW _ _ (cadd _ _ _)) ≤ _
    rw [mu_store, mu_cadd]; omega
  | b =>
    have h1 := find_len r 3 p s hp
    have h3 := wk_len r 5 e (findW r 3 p s).1 he
    show mu (storeW _ _ (cadd (lookW _ _) _ _)) ≤ _
    rw [mu_store, mu_cadd, mu_look]; omega
  | c =>
    have h3 := wk_len r 5 e s he
    have h1 := find_len r 3 p (wk r 5 e s) hp
    show mu (storeW _ _ (cadd (lookW _ _) _ _)) ≤ _
    rw [mu_store, mu_cadd, mu_look]; omega
  | d =>
    have  := setW_len sl r s hp (ok_add hp he)
    show mu (setW _ _ _ _ _) ≤ _
    omega
theorem rw_len (ad : T4) (sl r : Bool) {w : Rw} (s : Ws) (h : RowOk w) : mu (rwW ad sl r w s) ≤ mu s + 900 := by
  unfold rwW
  split
  · exact add_len ad sl r s h.p h.e
  · have  := setW_len sl r s h.p h.e; omega
theorem sIf_v {i : Nat} {x k : Str} {A B : DS} {e : Env} {S : Sto} (h : e[i]? = some (.va (.str x))) : sIf (tVal (eBin eqE (eVar i) (eC (.str k)))) A B e S = if x = k then A e S else B e S := by
  by_cases hx : x = k <;> simp [h, hx]
theorem sIf_e {f : DE} {x k : Str} {A B : DS} {e : Env} {S : Sto} (h : f e S = .ok (.str x) S) : sIf (tVal (eBin eqE f (eC (.str k)))) A B e S = if x = k then A e S else B e S := by
  by_cases hx : x = k <;> simp [h, hx]
theorem k_lf : ¬ (("last" : Str) = "first") := by decide +kernel
theorem a_tw (ad : T4) : aS ad = "twice" ↔ ad = .d := by cases ad <;> decide +kernel
theorem a_la (ad : T4) : aS ad = "last" ↔ ad = .c := by cases ad <;> decide +kernel
theorem a_lt (ad : T4) : aS ad = "late" ↔ ad = .b := by cases ad <;> decide +kernel
section
variable {X : Sto} {L : Dv} {r : Bool}
structure LgF (L : Dv) (ad : T4) (sl r : Bool) : Prop where
  parts : ∀ S, kFld "Language" "parts" L S = .ok (.str (sideS r)) S
  single : ∀ S, kFld "Language" "single" L S = .ok (.str (sS sl)) S
  adding : ∀ S, kFld "Language" "adding" L S = .ok (.str (aS ad)) S
theorem wk5_b (hL : ∀ S, kFld "Language" "parts" L S = .ok (.str (sideS r)) S) {e : Ex} (he : okE e) (h4 : htE e ≤ 4) {f : Nat} (hf : 16 ≤ f) (s : Ws) (hM : mu s ≤ 14000000) : calls f .Builder_work (bs X L s) [.hdl X.length, toD false e] = .ok (boxD (wk r 5 e s)) (bs X L (wk r 5 e s)) := by
  have z5 := zn5
  exact work_b hL 5 e f he (by omega) hf s (by omega)
theorem fd3_b (hL : ∀ S, kFld "Language" "parts" L S = .ok (.str (sideS r)) S) {p : Ex} (hp : okE p) (hpl : isPl p = true) (h3 : htE p ≤ 3) {f : Nat} (hf : 12 ≤ f) (s : Ws) (hM : mu s ≤ 14000000) : calls f .Builder_find_place (bs X L s) [.hdl X.length, toD false p] = .ok (sptD (findW r 3 p s).2) (bs X L (findW r 3 p s).1) := by
  have z3 := zn3
  exact findp_b hL hp hpl h3 hf s (by omega)
theorem set_b {ad : T4} {sl : Bool} (hL : LgF L ad sl r) {p e : Ex} (hp : okE p) (hpl : isPl p = true) (h3 : htE p ≤ 3) (he : okE e) (h4 : htE e ≤ 4) {f : Nat} (hf : 16 ≤ f) (s : Ws) (hM : mu s ≤ 13000000) : calls (f + 1) .build_set (bs X L s) [.hdl X.length, toD false p, toD false e] = .ok .non (bs X L (setW sl r p e s)) := by
  obtain ⟨g, rfl⟩ : ∃ g, f = g + 1 := ⟨f - 1, by omega⟩
  have z3 := zn3
  have z5 := zn5
  have hs : eFld "Language" "single" (eFld "Builder" "rules" (eVar 0)) [.va (.hdl X.length), .va (toD false p), .va (toD false e), .no, .no] (bs X L s) = .ok (.str (sS sl)) (bs X L s) := by
    simp [fld_rules, hL.single]
  rw [ev_build_set, fb_build_set, sIf_e hs]
  unfold setW
  cases sl with
  | true =>
    rw [show sS true = "last" from rfl, if_neg k_lf, if_pos rfl]
    have l1 := wk_len r 5 e s he
    have l2 := find_len r 3 p (wk r 5 e s) hp
    have m2 := mu2 (findW r 3 p (wk r 5 e s)).1
    have w1 := wk5_b (X := X) hL.parts he h4 (f := g + 1) (by omega) s (by omega)
    have w2 := fd3_b (X := X) hL.parts hp hpl h3 (f := g + 1) (by omega) (wk r 5 e s) (by omega)
    have w3 := store_b (X := X) (L := L) g (findW r 3 p (wk r 5 e s)).2 (boxD (wk r 5 e s)) (findW r 3 p (wk r 5 e s)).1 (find_ok' hp) (by omega)
    have s1 : sAsg 4 (eMeth "Builder" "work" [] (calls (g + 1) .Builder_work) (eVar 0) (aCons (eVar 2) aNil)) [.va (.hdl X.length), .va (toD false p), .va (toD false e), .no, .no] (bs X L s) = .nx [.va (.hdl X.length), .va (toD false p), .va (toD false e), .no, .va (boxD (wk r 5 e s))] (bs X L (wk r 5 e s)) := sAsg_m (m_work X L s.1 s.2) rfl (a1_ok (eV rfl)) w1
    rw [ev_seq, s1, kSeq_nx, sExpr_m (m_write_place X L (wk r 5 e s).1 (wk r 5 e s).2) rfl (a2_ok (eM_ok (m_find_place X L (wk r 5 e s).1 (wk r 5 e s).2) rfl (a1_ok (eV rfl)) w2) (eV rfl)) w3]
    rfl
  | false =>
    rw [show sS false = "first" from rfl, if_pos rfl, if_neg Bool.false_ne_true]
    have l2 := find_len r 3 p s hp
    have l1 := wk_len r 5 e (findW r 3 p s).1 he
    have m2 := mu2 (wk r 5 e (findW r 3 p s).1)
    have w2 := fd3_b (X := X) hL.parts hp hpl h3 (f := g + 1) (by omega) s (by omega)
    have w1 := wk5_b (X := X) hL.parts he h4 (f := g + 1) (by omega) (findW r 3 p s).1 (by omega)
    have w3 := store_b (X := X) (L := L) g (findW r 3 p s).2 (boxD (wk r 5 e (findW r 3 p s).1)) (wk r 5 e (findW r 3 p s).1) (find_ok' hp) (by omega)
    have s1 : sAsg 3 (eMeth "Builder" "find_place" [] (calls (g + 1) .Builder_find_place) (eVar 0) (aCons (eVar 1) aNil)) [.va (.hdl X.length), .va (toD false p), .va (toD false e), .no, .no] (bs X L s) = .nx [.va (.hdl X.length), .va (toD false p), .va (toD false e), .va (sptD (findW r 3 p s).2), .no] (bs X L (findW r 3 p s).1) := sAsg_m (m_find_place X L s.1 s.2) rfl (a1_ok (eV rfl)) w2
    rw [ev_seq, s1, kSeq_nx, sExpr_m (m_write_place X L (findW r 3 p s).1.1 (findW r 3 p s).1.2) rfl (a2_ok (eV rfl) (eM_ok (m_work X L (findW r 3 p s).1.1 (findW r 3 p s).1.2) rfl (a1_ok (eV rfl)) w1)) w3]
    rfl
abbrev aE (X : Sto) (dp de a4 a5 a6 : Sl) (ad : T4) : Env := [.va (.hdl X.length), dp, de, .va (.str (aS ad)), a4, a5, a6]
/-- the last deed: the call and the store -/
theorem fin_b (g : Nat) (dp de : Sl) (o v : Dv) (q : Spot) (s : Ws) (ad : T4) (hq : SpOk q) (hM : mu s ≤ 14000000) : sExpr (eMeth "Builder" "write_place" [] (calls (g + 2) .Builder_write_place) (eVar 0) (aCons (eVar 5) (aCons (eMeth "Builder" "call" [] (calls (g + 2) .Builder_call) (eVar 0) (aCons (eC (.str "add")) (aCons (eTup (aCons (eVar 6) (aCons (eVar 4) aNil))) aNil))) aNil))) (aE X dp de (.va v) (.va (sptD q)) (.va o) ad) (bs X L s) = .nx (aE X dp de (.va v) (.va (sptD q)) (.va o) ad) (bs X L (storeW q (boxD (cadd s o v)) (cadd s o v))) := by
  have m2 := mu2 s
  have m3 := mu2 (cadd s o v)
  rw [mu_cadd] at m3
  have w1 := call_ok X L s g "add" (.tup [o, v]) [o, v] (fun _ => rfl) (by omega)
  have w3 := store_b (X := X) (L := L) (g + 1) q (boxD (cadd s o v)) (cadd s o v) hq (by omega)
  exact sExpr_m (m_write_place X L s.1 s.2) rfl (a2_ok (eV rfl) (eM_ok (m_call X L s.1 s.2) rfl (a2_ok rfl (by simp)) w1)) w3
theorem add_b {ad : T4} {sl : Bool} (hL : LgF L ad sl r) {p e : Ex} (hp : okE p) (hpl : isPl p = true) (h3 : htE p ≤ 3) (he : okE e) (h4 : htE e ≤ 3) {f : Nat} (hf : 18 ≤ f) (s : Ws) (hM : mu s ≤ 12000000) : calls (f + 1) .build_add (bs X L s) [.hdl X.length, toD false p, toD false e] = .ok .non (bs X L (addW ad sl r p e s)) := by
  obtain ⟨g, rfl⟩ : ∃ g, f = g + 3 := ⟨f - 3, by omega⟩
  have z3 := zn3
  have z5 := zn5
  have hs : sAsg 3 (eFld "Language" "adding" (eFld "Builder" "rules" (eVar 0))) [.va (.hdl X.length), .va (toD false p), .va (toD false e), .no, .no, .no, .no] (bs X L s) = .nx (aE X (.va (toD false p)) (.va (toD false e)) .no .no .no ad) (bs X L s) := by
    simp [fld_rules, hL.adding]
  have fw : ∀ s a4 a5 a6, mu s ≤ 13900000 → sAsg 4 (eMeth "Builder" "work" [] (calls (g + 3) .Builder_work) (eVar 0) (aCons (eVar 2) aNil)) (aE X (.va (toD false p)) (.va (toD false e)) a4 a5 a6 ad) (bs X L s) = .nx (aE X (.va (toD false p)) (.va (toD false e)) (.va (boxD (wk r 5 e s))) a5 a6 ad) (bs X L (wk r 5 e s)) := fun s a4 a5 a6 h =>
    sAsg_m (m_work X L s.1 s.2) rfl (a1_ok (eV rfl)) (wk5_b (X := X) hL.parts he (by omega) (f := g + 3) (by omega) s (by omega))
  have ff : ∀ s a4 a5 a6, mu s ≤ 13900000 → sAsg 5 (eMeth "Builder" "find_place" [] (calls (g + 3) .Builder_find_place) (eVar 0) (aCons (eVar 1) aNil)) (aE X (.va (toD false p)) (.va (toD false e)) a4 a5 a6 ad) (bs X L s) = .nx (aE X (.va (toD false p)) (.va (toD false e)) a4 (.va (sptD (findW r 3 p s).2)) a6 ad) (bs X L (findW r 3 p s).1) := fun s a4 a5 a6 h =>
    sAsg_m (m_find_place X L s.1 s.2) rfl (a1_ok (eV rfl)) (fd3_b (X := X) hL.parts hp hpl h3 (f := g + 3) (by omega) s (by omega))
  have fl : ∀ s q a4 a6, SpOk q → mu s ≤ 13900000 → sAsg 6 (eMeth "Builder" "read_place" [] (calls (g + 3) .Builder_read_place) (eVar 0) (aCons (eVar 5) aNil)) (aE X (.va (toD false p)) (.va (toD false e)) a4 (.va (sptD q)) a6 ad) (bs X L s) = .nx (aE X (.va (toD false p)) (.va (toD false e)) a4 (.va (sptD q)) (.va (boxD (lookW q s))) ad) (bs X L (lookW q s)) := fun s q a4 a6 hq h =>
    sAsg_m (m_read_place X L s.1 s.2) rfl (a1_ok (eV rfl)) (look_b (X := X) (L := L) g q s hq (by have := mu2 s; omega))
  have hif : ∀ (k : Str) (A B : DS) (S : Sto), sIf (tVal (eBin eqE (eVar 3) (eC (.str k)))) A B (aE X (.va (toD false p)) (.va (toD false e)) .no .no .no ad) S = if aS ad = k then A (aE X (.va (toD false p)) (.va (toD false e)) .no .no .no ad) S else B (aE X (.va (toD false p)) (.va (toD false e)) .no .no .no ad) S := fun k A B S => sIf_v rfl
  rw [ev_build_add, fb_build_add, ev_seq, hs, kSeq_nx, hif]
  cases ad with
  | d =>
    rw [if_pos ((a_tw .d).mpr rfl)]
    have w := set_b (X := X) hL hp hpl h3 (ok_add hp he) (by show max (htE p) (max (htE e) 0) + 1 ≤ 4; omega) (f := g + 2) (by omega) s (by omega)
    have w' : calls (g + 3) .build_set (bs X L s) [.hdl X.length, toD false p, .tup [.str "call", .str "add", .tup [toD false p, toD false e]]] = .ok .non (bs X L (setW sl r p (addE p e) s)) := w
    show _ = Res.ok Dv.non (bs X L (setW sl r p (addE p e) s))
    generalize bs X L (setW sl r p (addE p e) s) = S1 at *
    generalize bs X L s = S0 at *
    generalize toD false p = dp at *
    generalize toD false e = de at *
    simp [w']
  | c =>
    rw [if_neg (fun z => nomatch (a_tw .c).mp z), hif, if_pos ((a_la .c).mpr rfl)]
    have l1 := wk_len r 5 e s he
    have l2 := find_len r 3 p (wk r 5 e s) hp
    have l3 := mu_look (findW r 3 p (wk r 5 e s)).2 (findW r 3 p (wk r 5 e s)).1
    rw [ev_seq, fw _ _ _ _ (by omega), kSeq_nx, ev_seq, ff _ _ _ _ (by omega), kSeq_nx, ev_seq, fl _ _ _ _ (find_ok' hp) (by omega), kSeq_nx, fin_b (g + 1) _ _ _ _ _ _ _ (find_ok' hp) (by omega)]
    rfl
  | b =>
    rw [if_neg (fun z => nomatch (a_tw .b).mp z), hif, if_neg (fun z => nomatch (a_la .b).mp z), hif, if_pos ((a_lt .b).mpr rfl)]
    have l2 := find_len r 3 p s hp
    have l1 := wk_len r 5 e (findW r 3 p s).1 he
    have l3 := mu_look (findW r 3 p s).2 (wk r 5 e (findW r 3 p s).1)
    rw [ev_seq, ff _ _ _ _ (by omega), kSeq_nx, ev_seq, fw _ _ _ _ (by omega), kSeq_nx, ev_seq, fl _ _ _ _ (find_ok' hp) (by omega), kSeq_nx, fin_b (g + 1) _ _ _ _ _ _ _ (find_ok' hp) (by omega)]
    rfl
  | a =>
    rw [if_neg (fun z => nomatch (a_tw .a).mp z), hif, if_neg (fun z => nomatch (a_la .a).mp z), hif, if_neg (fun z => nomatch (a_lt .a).mp z)]
    have l2 := find_len r 3 p s hp
    have l3 := mu_look (findW r 3 p s).2 (findW r 3 p s).1
    have l1 := wk_len r 5 e (lookW (findW r 3 p s).2 (findW r 3 p s).1) he
    rw [ev_seq, ff _ _ _ _ (by omega), kSeq_nx, ev_seq, fl _ _ _ _ (find_ok' hp) (by omega), kSeq_nx, ev_seq, fw _ _ _ _ (by omega), kSeq_nx, fin_b (g + 1) _ _ _ _ _ _ _ (find_ok' hp) (by omega)]
    rfl
/-- all rows -/
def wks (ad : T4) (sl r : Bool) : List Rw → Ws → Ws
  | [], s => s
  | w :: ws, s => wks ad sl r ws (rwW ad sl r w s)
theorem wks_len (ad : T4) (sl r : Bool) : ∀ (ws : List Rw) (s : Ws), RowsOk ws → mu (wks ad sl r ws s) ≤ mu s + ws.length * 900
  | [], s, _ => by simp [wks]
  | w :: ws, s, h => by
    have h1 := rw_len ad sl r s (h w (List.mem_cons_self ..))
    have h2 := wks_len ad sl r ws (rwW ad sl r w s) fun x hx => h x (List.mem_cons_of_mem _ hx)
    show mu (wks ad sl r ws (rwW ad sl r w s)) ≤ _
    rw [List.length_cons, Nat.succ_mul]; omega
theorem rows_loop {ad : T4} {sl : Bool} (hL : LgF L ad sl r) {f : Nat} (hf : 19 ≤ f) (s1 : Sl) : ∀ (es : List Rw) (M : Ws) (s2 : Sl), RowsOk es → mu M + es.length * 900 ≤ 11000000 → ∃ z2, forR (gN 2) (fb_build_rows_l0 (calls f)) (es.map rowD) [.va (.hdl X.length), s1, s2] (bs X L M) = .nx [.va (.hdl X.length), s1, z2] (bs X L (wks ad sl r es M))
  | [], M, s2, _, _ => ⟨s2, rfl⟩
  | e :: es, M, s2, h, hM => by
    have he := h e (List.mem_cons_self ..)
    rw [List.length_cons, Nat.succ_mul] at hM
    obtain ⟨g, rfl⟩ : ∃ g, f = g + 1 := ⟨f - 1, by omega⟩
    have h1 : calls (g + 1) (if e.a then .build_add else .build_set) (bs X L M) [.hdl X.length, toD false e.p, toD false e.e] = .ok .non (bs X L (rwW ad sl r e M)) := by
      unfold rwW
      cases e.a with
      | true => exact add_b hL he.p he.pl he.hp he.e he.he (by omega) M (by omega)
      | false => exact set_b hL he.p he.pl he.hp he.e (by have := he.he; omega) (by omega) M (by omega)
    have h2 := rw_len ad sl r M he
    obtain ⟨z2, hz⟩ := rows_loop hL hf s1 es (rwW ad sl r e M) (.va (rowD e)) (fun x hx => h x (List.mem_cons_of_mem _ hx)) (by omega)
    refine ⟨z2, ?_⟩
    rw [List.map_cons, forR_nx (e2 := [.va (.hdl X.length), s1, .va (rowD e)]) (S1 := bs X L (rwW ad sl r e M)) rfl ?_]
    · exact hz
    · have e3 := fun S => rx0 e S
      have e4 := fun S => rx1 e S
      have e5 := fun S => rx2 e S
      generalize bs X L (rwW ad sl r e M) = S1 at *
      generalize bs X L M = S0 at *
      generalize rowD e = q at *
      generalize toD false e.p = dp at *
      generalize toD false e.e = de at *
      cases ha : e.a <;> simp [ha] at h1 <;> simp [ha, rwS] at e3 <;> simp [fb_build_rows_l0, e3, e4, e5, k_sd, k_ad, k_as, h1]
end
end DL
namespace DL
open PySem L2
theorem val_map (k k' : Key) (d : Dv) : ∀ l : List (Key × Dv), valD (l.map fun kv => if kv.1 = k then (kv.1, d) else kv) k' = if k' = k then (valD l k).map (fun _ => d) else valD l k'
  | [] => by simp [valD]
  | (q, x) :: l => by
    have ih := val_map k k' d l
    unfold valD at *
    by_cases h1 : q = k
    · subst h1
      by_cases h2 : k' = q
      · subst h2; simp
      · have h3 : ¬ q = k' := fun z => h2 z.symm
        simp only [if_neg h2] at ih
        simp [h2, h3, ih, -List.find?_map, -Option.map_map]
    · by_cases h2 : k' = k
      · subst h2
        simp only [if_true] at ih
        simp [h1, ih, -List.find?_map, -Option.map_map]
      · simp only [if_neg h2] at ih
        by_cases h3 : q = k'
        · subst h3; simp [h1]
        · simp [h1, h2, h3, ih, -List.find?_map, -Option.map_map]
theorem val_app (k k' : Key) (d : Dv) : ∀ l : List (Key × Dv), valD l k = none → valD (l ++ [(k, d)]) k' = if k' = k then some d else valD l k'
  | [], _ => by
    unfold valD
    by_cases h : k = k'
    · subst h; simp
    · have h2 : ¬ k' = k := fun z => h z.symm
      simp [h, h2]
  | (q, x) :: l, h => by
    unfold valD at h
    have h1 : ¬ q = k := by
      intro z; subst z; simp at h
    have h' : valD l k = none := by unfold valD; simpa [h1] using h
    have ih := val_app k k' d l h'
    unfold valD at *
    by_cases h3 : q = k'
    · subst h3; simp [h1]
    · simp only [List.cons_append, List.find?_cons, h3, decide_false]
      exact ih
theorem any_val {l : List (Key × Dv)} {k : Key} : (l.any fun kv => decide (kv.1 = k)) = (valD l k).isSome := by
  induction l with
  | nil => rfl
  | cons a l ih =>
    unfold valD at *
    by_cases h : a.1 = k
    · simp [h]
    · simp [h, ih]
theorem val_put (l : List (Key × Dv)) (k : Key) (d : Dv) (k' : Key) : valD (putD l k d) k' = if k' = k then some d else valD l k' := by
  unfold putD
  rw [any_val]
  cases h : valD l k with
  | none => simp only [Option.isSome_none, Bool.false_eq_true, if_false]; exact val_app k k' d l h
  | some x => simp only [Option.isSome_some, if_true]; rw [val_map, h]; rfl
theorem dget_ok {d : List (Key × Dv)} {i : Nat} {v : Dv} (S : Sto) (h : valD d (.inl (i : Int)) = some v) : dgetD S (.dic d) (.int (i : Int)) = some (v, S) := by
  unfold dgetD
  simp [asD, keyD, h]
theorem dput_ok {e : Env} {S S1 : Sto} {fi fv : DE} {v : Dv} {j i : Nat} {d : List (Key × Dv)} (h1 : fv e S = .ok v S1) (h2 : e[j]? = some (.od d)) (h3 : fi e S1 = .ok (.int (i : Int)) S1) (hl : d.length ≤ 1000) : sDPutO j fi fv e S = .nx (e.set j (.od (putD d (.inl (i : Int)) v))) S1 := by
  unfold sDPutO sBind
  simp only [h1, h2]
  simp only [h3, dputO, keyD]
  rw [if_pos (by rw [sizeLine_eq]; omega)]
def lst (X : Sto) (C : Dv) (n : Int) (M : List Dv) : Sto := X ++ [.lst M, .lst [.int n, .hdl X.length, C]]
abbrev ls (X : Sto) (C : Dv) (s : Ws) : Sto := lst X C (s.1 : Int) s.2
section
variable (X : Sto) (C : Dv) (n : Int) (M : List Dv)
theorem lst_0 : (lst X C n M)[X.length]? = some (.lst M) := by unfold lst; simp
theorem lst_1 : (lst X C n M)[X.length + 1]? = some (.lst [.int n, .hdl X.length, C]) := by unfold lst; simp
theorem lst_s0 (M' : List Dv) : (lst X C n M).set X.length (.lst M') = lst X C n M' := by unfold lst; simp
theorem lst_s1 (k : Int) : (lst X C n M).set (X.length + 1) (.lst [.int k, .hdl X.length, C]) = lst X C k M := by unfold lst; simp
theorem lapp_ok {d : Dv} (h : M.length < 16000000) : hdlM appD (lst X C n M) (.hdl X.length) [d] = .ok .non (lst X C n (M ++ [d])) := by
  rw [hdlM_app (h1 := lst_0 X C n M) (h2 := by rw [sizeLine_eq]; omega), lst_s0]
theorem ix30 : ixN 3 0 = some 0 := by decide
theorem l_inc (e : Env) (h : e[0]? = some (.va (.hdl (X.length + 1)))) : sAugI addI (eVar 0) (eC (.int 0)) (eC (.int 1)) e (lst X C n M) = .nx e (lst X C (n + 1) M) := by
  simp [h, lst_1, ix30, lst_s1]
end
section
variable (X : Sto) (C : Dv) (s : Ws)
theorem l_box_ok (f : Nat) (kd : Str) (ts : List Dv) (ht : ts.length ≤ 1000) (h : s.2.length < 16000000) : calls (f + 1) .l_box (ls X C s) [.hdl (X.length + 1), .str kd, .tup ts] = .ok (boxD (psh s (.tup (.str kd :: numD s :: ts)))) (ls X C (psh s (.tup (.str kd :: numD s :: ts)))) := by
  have e1 := l_inc X C s.1 s.2 [.va (.hdl (X.length + 1)), .va (.str kd), .va (.tup ts)] rfl
  have e2 : ∀ d, hdlM appD (lst X C ((s.1 : Int) + 1) s.2) (.hdl X.length) [d] = _ := fun d => lapp_ok X C _ s.2 h
  have e4 : ∀ S a b, addD S (.tup [a, b]) (.tup ts) = some (.tup (a :: b :: ts), S) := fun S a b => op_add_t S [a, b] ts (by rw [sizeLine_eq]; simp only [List.length_cons, List.length_nil]; omega)
  unfold ls
  rw [boxD_psh, psh_1, psh_2, ev_l_box, fb_l_box, ev_seq, e1]
  simp [lst_1, at0, at1, lst_0, e4, e2, numD]
theorem l_call_ok (f : Nat) (g : Str) (b : List Dv) (h : s.2.length < 16000000) : calls (f + 1) .l_call (ls X C s) [.hdl (X.length + 1), .str g, .lst b] = .ok (boxD (psh s (callD s g b))) (ls X C (psh s (callD s g b))) := by
  have e1 := l_inc X C s.1 s.2 [.va (.hdl (X.length + 1)), .va (.str g), .va (.lst b)] rfl
  have e2 : ∀ d, hdlM appD (lst X C ((s.1 : Int) + 1) s.2) (.hdl X.length) [d] = _ := fun d => lapp_ok X C _ s.2 h
  unfold ls
  rw [boxD_psh, psh_1, psh_2, ev_l_call, fb_l_call, ev_seq, e1]
  simp [lst_1, at0, at1, lst_0, e2, numD, callD]
end
end DL
namespace DL
open PySem L2
theorem order_ok {f : Nat} (r : Bool) (n : Nat) (hn : n ≤ 100) (S : Sto) : calls (f + 1) .l_order S [.str (sideS r), .int (n : Int)] = .ok (.lst ((ordN r n).map intN)) S := by
  have e1 := fun S => rngK1_ok S (n : Int) (by omega)
  simp only [Int.toNat_natCast, rng_map] at e1
  have e4 : (ordN r n).map intN = if r then ((List.range n).map intN).reverse else (List.range n).map intN := by
    unfold ordN
    cases r <;> simp
  rw [e4]
  clear e4
  generalize (List.range n).map intN = R at *
  generalize (n : Int) = m at *
  have k_rl : ¬ (("right" : Str) = "left") := by decide +kernel
  cases r with
  | false => simp [ev_l_order, fb_l_order, e1, sideS]
  | true => simp [ev_l_order, fb_l_order, e1, sideS, k_rl]
def LWk (f : Nat) (X : Sto) (C : Dv) (W : Ex → Ws → Ws) (z : Nat) (e : Ex) : Prop := ∀ M, mu M + z ≤ 15000000 → calls f .l_work (ls X C M) [.hdl (X.length + 1), toD false e] = .ok (boxD (W e M)) (ls X C (W e M))
theorem loop_l {f : Nat} {X : Sto} {C : Dv} {W : Ex → Ws → Ws} {P : List Ex} {z : Nat} (hW : ∀ e ∈ P, LWk f X C W z e) (hl : ∀ e ∈ P, ∀ M, mu (W e M) ≤ mu M + z) :
    ∀ (is : List Nat) (M : Ws) (b : List Dv) (d : List (Key × Dv)) (D : Nat → Prop) (s3 : Sl), (∀ i ∈ is, i < P.length) → b.length = P.length → mu M + is.length * z ≤ 15000000 → d.length + is.length ≤ 1000 → (∀ i, D i → valD d (.inl (i : Int)) = b[i]?) →
    ∃ z3 d', forR (gN 3) (fb_l_work_all_l0 (calls f)) (is.map intN) [.va (.hdl (X.length + 1)), .va (.tup (toDs false P)), .od d, s3] (ls X C M) = .nx [.va (.hdl (X.length + 1)), .va (.tup (toDs false P)), .od d', z3] (ls X C (is.foldl (wst W P) (M, b)).1) ∧ ∀ i, D i ∨ i ∈ is → valD d' (.inl (i : Int)) = (is.foldl (wst W P) (M, b)).2[i]?
  | [], M, b, d, D, s3, _, _, _, _, hD => ⟨s3, d, rfl, fun i hi => by
      rcases hi with hi | hi
      · exact hD i hi
      · cases hi⟩
  | i :: is, M, b, d, D, s3, hi, hb, hM, hd, hD => by
    have h0 := hi i (List.mem_cons_self ..)
    have he : P[i]? = some P[i] := List.getElem?_eq_getElem h0
    generalize P[i] = e at he
    have hm := List.mem_of_getElem? he
    rw [List.length_cons, Nat.succ_mul] at hM
    rw [List.length_cons] at hd
    have e1 := hW e hm M (by omega)
    have l1 := hl e hm M
    have pl := put_len d (.inl (i : Int)) (boxD (W e M))
    obtain ⟨z3, d', hz, hq⟩ := loop_l hW hl is (W e M) (b.set i (boxD (W e M))) (putD d (.inl (i : Int)) (boxD (W e M))) (fun j => D j ∨ j = i) (.va (intN i)) (fun j hj => hi j (List.mem_cons_of_mem _ hj)) (by simp [hb]) (by omega) (by omega) (fun j hj => by
      rw [val_put]
      by_cases hji : j = i
      · subst hji
        rw [if_pos rfl, List.getElem?_set, if_pos rfl, if_pos (by omega)]
      · have h2 : ¬ (Sum.inl (j : Int) : Key) = .inl (i : Int) := fun z => hji (by injection z with z; omega)
        rw [if_neg h2, List.getElem?_set, if_neg (fun z => hji z.symm)]
        rcases hj with hj | hj
        · exact hD j hj
        · exact absurd hj hji)
    refine ⟨z3, d', ?_, fun j hj => ?_⟩
    · have e2 := at_toDs he
      rw [List.map_cons, forR_nx (e2 := [.va (.hdl (X.length + 1)), .va (.tup (toDs false P)), .od (putD d (.inl (i : Int)) (boxD (W e M))), .va (intN i)]) (S1 := ls X C (W e M)) rfl ?_, List.foldl_cons, wst_some he]
      · exact hz
      · refine dput_ok (e := [.va (.hdl (X.length + 1)), .va (.tup (toDs false P)), .od d, .va (intN i)]) (v := boxD (W e M)) (j := 2) (i := i) (d := d) ?_ rfl rfl (by omega)
        generalize toDs false P = ps at *
        generalize toD false e = q at *
        simp [e2, e1]
    · rw [List.foldl_cons, wst_some he]
      refine hq j ?_
      rcases hj with hj | hj
      · exact .inl (.inl hj)
      · rcases List.mem_cons.mp hj with rfl | hj
        · exact .inl (.inr rfl)
        · exact .inr hj
theorem lc_get {d : List (Key × Dv)} {s0 s1 : Sl} (g : Nat → Dv) (S : Sto) : ∀ l : List Nat, (∀ i ∈ l, valD d (.inl (i : Int)) = some (g i)) → lcR (gN 3) tTrue (eBin dgetD (eAny 2) (eVar 3)) [s0, s1, .od d, .no] (l.map intN) S = .ok (l.map g) S
  | [], _ => rfl
  | i :: l, h => by
    have h1 := dget_ok S (h i (List.mem_cons_self ..))
    rw [List.map_cons, List.map_cons]
    exact lcR_t (e1 := [s0, s1, .od d, .va (intN i)]) (S1 := S) (S2 := S) rfl rfl (by simp [h1]) (lc_get g S l fun j hj => h j (List.mem_cons_of_mem _ hj))
theorem rng_getD (b : List Dv) : (List.range b.length).map (fun i => (b[i]?).getD .non) = b := by
  apply List.ext_getElem
  · simp
  · intro i h1 h2
    simp [h2]
theorem wal_t4 (S : Sto) (nn : Int) (ps rs R2 : List Dv) (d' : List (Key × Dv)) (z3 : Sl) (h : Dv) (er : rngR1 [.int nn] S = .ok rs S) (hlc : lcR (gN 3) tTrue (eBin dgetD (eAny 2) (eVar 3)) [.va h, .va (.tup ps), .od d', .no] rs S = .ok R2 S) (ek : kLcEnd (.ok R2 S) = .ok R2 S) (e5 : lenD S [.tup ps] = some (.int nn, S)) :
    fLc (iRng1' (aCons (eCB lenD (aCons (eVar 1) aNil)) aNil)) (gN 3) tTrue (eBin dgetD (eAny 2) (eVar 3)) [3] [.va h, .va (.tup ps), .od d', z3] S = .ok R2 S := by
  have a1 : (aCons (eCB lenD (aCons (eVar 1) aNil)) aNil) [.va h, .va (.tup ps), .od d', z3] S = .ok [.int nn] S := by simp [e5, -len_tup]
  rw [ev_fLc, ev_rng1, a1, bnd_ok, er, bnd_ok, ev_kLc]
  show kLcEnd (lcR _ _ _ [.va h, .va (.tup ps), .od d', .no] _ _) = _
  rw [hlc, ek]
theorem wal_ord {X : Sto} {C : Dv} {n : Int} {M : List Dv} (g : DF) (sd : Str) (cs ps is : List Dv) (s2 s3 : Sl) (nn : Int) (hC : C = .tup (.str sd :: cs)) (e5 : ∀ S, lenD S [.tup ps] = some (.int nn, S)) (e1 : ∀ S, g S [.str sd, .int nn] = .ok (.lst is) S) :
    iSq (eCall g (aCons (eBin ixD (eBin ixD (eVar 0) (eC (.int 2))) (eC (.int 0))) (aCons (eCB lenD (aCons (eVar 1) aNil)) aNil))) [.va (.hdl (X.length + 1)), .va (.tup ps), s2, s3] (lst X C n M) = .ok is (lst X C n M) := by
  subst hC
  simp [lst_1, at2, at0, e5, -len_tup, e1]
theorem wal_shape (F : DS) (J : DL) (Q : Env → Sto → Res (List Dv)) (h d : Dv) (is b : List Dv) (d' : List (Key × Dv)) (z3 : Sl) (S S1 : Sto) (hJ : J [.va h, .va d, .od [], .no] S = .ok is S) (hz : forR (gN 3) F is [.va h, .va d, .od [], .no] S = .nx [.va h, .va d, .od d', z3] S1) (hQ : Q [.va h, .va d, .od d', z3] S1 = .ok b S1) :
    kRun ((sSeq (sOwnN 2 (nD dNil)) (sSeq (sFor J (gN 3) F) (sRet (eFrz Q)))) [.va h, .va d, .no, .no] S) = .ok (.lst b) S1 := by
  simp [hJ, hz, hQ]
theorem work_all_l {f : Nat} {X : Sto} {r : Bool} {cs : List Dv} {W : Ex → Ws → Ws} {P : List Ex} {z : Nat} (hP : P.length ≤ 4) (hW : ∀ e ∈ P, LWk (f + 1) X (.tup (.str (sideS r) :: cs)) W z e) (hl : ∀ e ∈ P, ∀ M, mu (W e M) ≤ mu M + z) (M : Ws) (hM : mu M + 4 * z ≤ 15000000) :
    calls (f + 2) .l_work_all (ls X (.tup (.str (sideS r) :: cs)) M) [.hdl (X.length + 1), .tup (toDs false P)] = .ok (.lst (wall W r P M).2) (ls X (.tup (.str (sideS r) :: cs)) (wall W r P M).1) := by
  have e1 := fun S => order_ok (f := f) r P.length (by omega) S
  have e0 : (toDs false P).length = P.length := toDs_len false P
  have h2 : P.length * z ≤ 4 * z := Nat.mul_le_mul_right _ hP
  obtain ⟨z3, d', hz, hq⟩ := loop_l hW hl (ordN r P.length) M (List.replicate P.length (.int 0)) [] (fun _ => False) .no (fun i hi => ord_lt hi) (by simp) (by rw [ord_len]; omega) (by rw [ord_len]; simp; omega) (fun _ h => h.elim)
  have w2 := wall_len2 (W := W) (r := r) (P := P) M
  unfold wall at w2
  unfold wall
  have er := fun S => rngR1_ok S (P.length : Int) (by omega)
  simp only [Int.toNat_natCast, rng_map] at er
  have hlc : ∀ S, lcR (gN 3) tTrue (eBin dgetD (eAny 2) (eVar 3)) [.va (.hdl (X.length + 1)), .va (.tup (toDs false P)), .od d', .no] ((List.range P.length).map intN) S = .ok ((ordN r P.length).foldl (wst W P) (M, List.replicate P.length (.int 0))).2 S := fun S => by
    have := lc_get (d := d') (s0 := .va (.hdl (X.length + 1))) (s1 := .va (.tup (toDs false P))) (fun i => (((ordN r P.length).foldl (wst W P) (M, List.replicate P.length (.int 0))).2[i]?).getD .non) S (List.range P.length) (fun i hi => by
      have hi' : i < P.length := by simpa using hi
      rw [hq i (.inr (ord_mem r hi'))]
      rw [List.getElem?_eq_getElem (by rw [w2]; exact hi')]
      rfl)
    rw [this]
    congr 1
    have := rng_getD ((ordN r P.length).foldl (wst W P) (M, List.replicate P.length (.int 0))).2
    rw [w2] at this
    exact this
  have hk : ((ordN r P.length).foldl (wst W P) (M, List.replicate P.length (.int 0))).2.length ≤ 16777216 := by rw [w2]; omega
  clear hq
  generalize (ordN r P.length).foldl (wst W P) (M, List.replicate P.length (.int 0)) = R at *
  generalize (ordN r P.length).map intN = is at *
  generalize (List.range P.length).map intN = rs at *
  generalize toDs false P = ps at *
  generalize hn : (P.length : Int) = nn at *
  have e5 : ∀ S, lenD S [.tup ps] = some (.int nn, S) := fun S => by rw [len_tup, e0, hn]
  have ek := fun S => kLcEnd' (S := S) (l := R.2) hk
  clear e0 hn h2 hM hP hW hl w2 hk
  rw [ev_l_work_all, fb_l_work_all]
  exact wal_shape _ _ _ _ _ is _ d' z3 _ _ (wal_ord _ _ cs ps is _ _ nn rfl e5 e1) hz (wal_t4 _ nn ps rs R.2 d' z3 _ (er _) (hlc _) (ek _) (e5 _))
end DL
namespace DL
open PySem L2
section
variable {X : Sto} {C : Dv}
theorem k_sw' : ¬ (("item" : Str) = "slice") := by decide +kernel
theorem lfw_l (f : Nat) (w : Bool) (x : Str) (M : Ws) (h : M.2.length < 16000000) : calls (f + 2) .l_work (ls X C M) [.hdl (X.length + 1), .tup [.str (lfS w), .str x]] = .ok (boxD (psh M (lfD w x M))) (ls X C (psh M (lfD w x M))) := by
  have e1 := fun kd => l_box_ok X C M f kd [.str x] (by simp) h
  cases w with
  | false =>
    have e1 := e1 "read"
    show _ = Res.ok (boxD (psh M (.tup [.str "read", numD M, .str x]))) (ls X C (psh M (.tup [.str "read", numD M, .str x])))
    generalize psh M (.tup [.str "read", numD M, .str x]) = M2 at *
    unfold ls at *
    simp [ev_l_work, fb_l_work, lfS, at0, at1, e1]
  | true =>
    have e1 := e1 "word"
    show _ = Res.ok (boxD (psh M (.tup [.str "word", numD M, .str x]))) (ls X C (psh M (.tup [.str "word", numD M, .str x])))
    generalize psh M (.tup [.str "word", numD M, .str x]) = M2 at *
    unfold ls at *
    simp [ev_l_work, fb_l_work, lfS, at0, at1, k_nw, e1]
theorem lc_1 (c : Fn → DF) (s : Str) (ps b : List Dv) (h : Dv) (S S1 : Sto) (ha : c .l_work_all S [h, .tup ps] = .ok (.lst b) S1) : (aCons (eVar 0) (aCons (eBin ixD (eVar 1) (eC (.int 1))) (aCons (eCall (c .l_work_all) (aCons (eVar 0) (aCons (eBin ixD (eVar 1) (eC (.int 2))) aNil))) aNil))) [.va h, .va (.tup [.str "call", .str s, .tup ps]), .no] S = .ok [h, .str s, .lst b] S1 := by
  simp [at1, at2, ha]
theorem lc_2 (fa : DA) (g : DF) (as : List Dv) (bx : Dv) (e : Env) (S S1 S2 : Sto) (ha : fa e S = .ok as S1) (e1 : g S1 as = .ok bx S2) : sRet (eCall g fa) e S = .rt bx S2 := by
  simp [ha, e1]
theorem lc_3 (F G H I : DS) (s : Str) (ps : List Dv) (bx h : Dv) (S S1 : Sto) (hF : F [.va h, .va (.tup [.str "call", .str s, .tup ps]), .no] S = .rt bx S1) :
   kRun ((sSeq (sIf (tVal (eBin eqE (eBin ixD (eVar 1) (eC (.int 0))) (eC (.str "name")))) G sNil) (sSeq (sIf (tVal (eBin eqE (eBin ixD (eVar 1) (eC (.int 0))) (eC (.str "word")))) H sNil) (sSeq (sIf (tVal (eBin eqE (eBin ixD (eVar 1) (eC (.int 0))) (eC (.str "call")))) F sNil) I))) [.va h, .va (.tup [.str "call", .str s, .tup ps]), .no] S) = .ok bx S1 := by
  simp [at0, k_nc, k_wc, hF]
theorem callw_l (f : Nat) (g : Str) (ps b : List Dv) (M1 M : Ws) (ha : calls (f + 1) .l_work_all (ls X C M) [.hdl (X.length + 1), .tup ps] = .ok (.lst b) (ls X C M1)) (h : M1.2.length < 16000000) : calls (f + 2) .l_work (ls X C M) [.hdl (X.length + 1), .tup [.str "call", .str g, .tup ps]] = .ok (boxD (psh M1 (callD M1 g b))) (ls X C (psh M1 (callD M1 g b))) := by
  have e1 := l_call_ok X C M1 f g b h
  rw [ev_l_work, fb_l_work]
  exact lc_3 _ _ _ _ g ps _ _ _ _ (lc_2 _ _ _ _ _ _ _ _ (lc_1 _ g ps b _ _ _ ha) e1)
theorem lc_4 (F G H I J : DS) (sl : Bool) (ps b : List Dv) (g : DF) (bx h : Dv) (S S1 S2 : Sto) (ha : g S [h, .tup ps] = .ok (.lst b) S1) (hI : (if sl then I else J) [.va h, .va (.tup (.str (ndS sl) :: ps)), .va (.lst b)] S1 = .rt bx S2) :
   kRun ((sSeq (sIf (tVal (eBin eqE (eBin ixD (eVar 1) (eC (.int 0))) (eC (.str "name")))) G sNil) (sSeq (sIf (tVal (eBin eqE (eBin ixD (eVar 1) (eC (.int 0))) (eC (.str "word")))) H sNil) (sSeq (sIf (tVal (eBin eqE (eBin ixD (eVar 1) (eC (.int 0))) (eC (.str "call")))) F sNil) (sSeq (sAsg 2 (eCall g (aCons (eVar 0) (aCons (eCut (eVar 1) (oSome (eC (.int 1))) oNone) aNil)))) (sSeq (sIf (tVal (eBin eqE (eBin ixD (eVar 1) (eC (.int 0))) (eC (.str "slice")))) I sNil) J))))) [.va h, .va (.tup (.str (ndS sl) :: ps)), .no] S) = .ok bx S2 := by
  cases sl with
  | false => simp only [ndS, Bool.false_eq_true, if_false] at *; simp [at0, k_ni, k_ci, k_wi, k_sw', cut1, ha, hI]
  | true => simp only [ndS, if_true] at *; simp [at0, k_ns, k_cs, k_ws, cut1, ha, hI]
theorem ndw_l (f : Nat) (sl : Bool) (ps b : List Dv) (M1 M : Ws) (ha : calls (f + 1) .l_work_all (ls X C M) [.hdl (X.length + 1), .tup ps] = .ok (.lst b) (ls X C M1)) (hb : b.length ≤ 1000) (h : M1.2.length < 16000000) : calls (f + 2) .l_work (ls X C M) [.hdl (X.length + 1), .tup (.str (ndS sl) :: ps)] = .ok (boxD (lookW (.at sl b) M1)) (ls X C (lookW (.at sl b) M1)) := by
  rw [ev_l_work, fb_l_work]
  refine lc_4 _ _ _ _ _ sl ps b _ _ _ _ (ls X C M1) _ ha ?_
  cases sl with
  | true =>
    have e1 := l_call_ok X C M1 f "cut" b h
    have e0 : lookW (.at true b) M1 = psh M1 (callD M1 "cut" b) := rfl
    rw [e0]
    simp only [if_true]
    generalize ls X C M1 = S1 at *
    generalize psh M1 (callD M1 "cut" b) = M2 at *
    generalize ls X C M2 = S2 at *
    generalize boxD M2 = bx at *
    simp [e1]
  | false =>
    have e1 := l_box_ok X C M1 f "get" b hb h
    have e0 : lookW (.at false b) M1 = psh M1 (getD M1 b) := rfl
    rw [e0]
    simp only [Bool.false_eq_true, if_false]
    unfold getD
    generalize ls X C M1 = S1 at *
    generalize psh M1 (Dv.tup (.str "get" :: numD M1 :: b)) = M2 at *
    generalize ls X C M2 = S2 at *
    generalize boxD M2 = bx at *
    simp [e1]
theorem work_l {r : Bool} {cs : List Dv} : ∀ (n : Nat) (e : Ex) (f : Nat), okE e → htE e < n → 2 * n + 1 ≤ f → LWk f X (.tup (.str (sideS r) :: cs)) (wk r n) (Zn n) e
  | 0, e, f, _, h, _ => absurd h (Nat.not_lt_zero _)
  | n + 1, e, f, h, hn, hf => by
    intro M hM
    have hz : Zn (n + 1) = 4 * Zn n + 2 := rfl
    rw [hz] at hM
    have h2m := mu2 M
    cases e with
    | lf w x =>
      obtain ⟨g, rfl⟩ : ∃ g, f = g + 2 := ⟨f - 2, by omega⟩
      exact lfw_l g w x M (by omega)
    | call s l =>
      obtain ⟨g, rfl⟩ : ∃ g, f = g + 3 := ⟨f - 3, by omega⟩
      have hn' : htL l + 1 < n + 1 := hn
      have hk : ∀ e ∈ l, ∀ M, mu (wk r n e M) ≤ mu M + Zn n := fun e he M => wk_len r n e M (ok_mem h.2.2 he)
      have ha := work_all_l (f := g) (X := X) (r := r) (cs := cs) (W := wk r n) (P := l) (z := Zn n) h.2.1 (fun e he => work_l n e (g + 1) (ok_mem h.2.2 he) (by have := ht_mem he; omega) (by omega)) hk M (by omega)
      have hl := wall_len (W := wk r n) (r := r) h.2.1 hk M
      have := mu2 (wall (wk r n) r l M).1
      exact callw_l (g + 1) s (toDs false l) _ _ M ha (by omega)
    | nd sl l =>
      obtain ⟨g, rfl⟩ : ∃ g, f = g + 3 := ⟨f - 3, by omega⟩
      have hn' : htL l + 1 < n + 1 := hn
      have hP : l.length ≤ 4 := (ok_pt (e := .nd sl l) h).1
      have hk : ∀ e ∈ l, ∀ M, mu (wk r n e M) ≤ mu M + Zn n := fun e he M => wk_len r n e M (ok_mem h.2 he)
      have ha := work_all_l (f := g) (X := X) (r := r) (cs := cs) (W := wk r n) (P := l) (z := Zn n) hP (fun e he => work_l n e (g + 1) (ok_mem h.2 he) (by have := ht_mem he; omega) (by omega)) hk M (by omega)
      have hl := wall_len (W := wk r n) (r := r) hP hk M
      have h2 := wall_len2 (W := wk r n) (r := r) (P := l) M
      have := mu2 (wall (wk r n) r l M).1
      exact ndw_l (g + 1) sl (toDs false l) _ _ M ha (by omega) (by omega)
theorem find_l (f : Nat) (sl : Bool) (ps b : List Dv) (s1 s : Ws) (ha : calls f .l_work_all (ls X C s) [.hdl (X.length + 1), .tup ps] = .ok (.lst b) (ls X C s1)) : calls (f + 1) .l_find (ls X C s) [.hdl (X.length + 1), .tup (.str (ndS sl) :: ps)] = .ok (.tup [.str (ndS sl), .lst b]) (ls X C s1) := by
  generalize ls X C s = S0 at *
  generalize ls X C s1 = S1 at *
  cases sl <;> simp [ev_l_find, fb_l_find, ndS, at0, k_ni, k_ns, cut1, ha]
theorem findn_l (f : Nat) (x : Str) (S : Sto) (h : Dv) : calls (f + 1) .l_find S [h, .tup [.str "name", .str x]] = .ok (.tup [.str "name", .str x]) S := by
  simp [ev_l_find, fb_l_find, at0, at1]
theorem look_l (f : Nat) (q : Spot) (s : Ws) (hq : SpOk q) (h : s.2.length < 16000000) : calls (f + 2) .l_look (ls X C s) [.hdl (X.length + 1), sptD q] = .ok (boxD (lookW q s)) (ls X C (lookW q s)) := by
  cases q with
  | nm x =>
    have e1 := l_box_ok X C s f "read" [.str x] (by simp) h
    show _ = Res.ok (boxD (psh s (.tup [.str "read", numD s, .str x]))) (ls X C (psh s (.tup [.str "read", numD s, .str x])))
    generalize psh s (.tup [.str "read", numD s, .str x]) = M2 at *
    generalize ls X C s = S0 at *
    generalize ls X C M2 = S1 at *
    simp [sptD, ev_l_look, fb_l_look, at0, at1, e1]
  | «at» sl b =>
    cases sl with
    | true =>
      have e1 := l_call_ok X C s f "cut" b h
      show _ = Res.ok (boxD (psh s (callD s "cut" b))) (ls X C (psh s (callD s "cut" b)))
      generalize psh s (callD s "cut" b) = M2 at *
      generalize ls X C s = S0 at *
      generalize ls X C M2 = S1 at *
      simp [sptD, ndS, ev_l_look, fb_l_look, at0, at1, k_ns, e1]
    | false =>
      have hq : b.length = 2 := hq
      have e1 := l_box_ok X C s f "get" b (by omega) h
      show _ = Res.ok (boxD (psh s (.tup (.str "get" :: numD s :: b)))) (ls X C (psh s (.tup (.str "get" :: numD s :: b))))
      generalize psh s (.tup (.str "get" :: numD s :: b)) = M2 at *
      generalize ls X C s = S0 at *
      generalize ls X C M2 = S1 at *
      simp [sptD, ndS, ev_l_look, fb_l_look, at0, at1, k_ni, k_sw', e1]
theorem store_l (f : Nat) (q : Spot) (v : Dv) (s : Ws) (hq : SpOk q) (h : s.2.length < 16000000) : calls (f + 1) .l_store (ls X C s) [.hdl (X.length + 1), sptD q, v] = .ok .non (ls X C (storeW q v s)) := by
  have e2 : ∀ d, hdlM appD (lst X C (s.1 : Int) s.2) (.hdl X.length) [d] = _ := fun d => lapp_ok X C _ s.2 h
  cases q with
  | nm x =>
    show _ = Res.ok Dv.non (lst X C s.1 (s.2 ++ [.tup [.str "write", .str x, v]]))
    unfold ls at *
    simp [sptD, ev_l_store, fb_l_store, at0, at1, lst_1, lst_0, e2]
  | «at» sl b =>
    cases sl with
    | true =>
      have hq : b.length = 3 := hq
      have e4 : ∀ S, addD S (.tup b) (.tup [v]) = some (.tup (b ++ [v]), S) := fun S => op_add_t S b [v] (by rw [sizeLine_eq, hq]; simp)
      show _ = Res.ok Dv.non (lst X C s.1 (s.2 ++ [.tup [.str "call", .tup [], .str "fill", .tup (b ++ [v])]]))
      unfold ls at *
      simp [sptD, ndS, ev_l_store, fb_l_store, at0, at1, k_ns, k_is, lst_1, lst_0, e4, e2]
    | false =>
      have hq : b.length = 2 := hq
      match b, hq with
      | [a, c], _ =>
        show _ = Res.ok Dv.non (lst X C s.1 (s.2 ++ [.tup [.str "put", a, c, v]]))
        unfold ls at *
        simp [sptD, ndS, ev_l_store, fb_l_store, at0, at1, k_ni, lst_1, lst_0, e2]
theorem findp_l {r : Bool} {cs : List Dv} {n : Nat} {p : Ex} {f : Nat} (h : okE p) (hpl : isPl p = true) (hn : htE p ≤ n) (hf : 2 * n + 3 ≤ f) (s : Ws) (hM : mu s + 4 * Zn n ≤ 15000000) : calls f .l_find (ls X (.tup (.str (sideS r) :: cs)) s) [.hdl (X.length + 1), toD false p] = .ok (sptD (findW r n p s).2) (ls X (.tup (.str (sideS r) :: cs)) (findW r n p s).1) := by
  cases p with
  | lf w x =>
    cases w with
    | true => cases hpl
    | false =>
      obtain ⟨g, rfl⟩ : ∃ g, f = g + 1 := ⟨f - 1, by omega⟩
      exact findn_l g x _ _
  | call g l => cases hpl
  | nd sl l =>
    obtain ⟨g, rfl⟩ : ∃ g, f = g + 3 := ⟨f - 3, by omega⟩
    have hn' : htL l + 1 ≤ n := hn
    have hP : l.length ≤ 4 := (ok_pt (e := .nd sl l) h).1
    have hk : ∀ e ∈ l, ∀ M, mu (wk r n e M) ≤ mu M + Zn n := fun e he M => wk_len r n e M (ok_mem h.2 he)
    have ha := work_all_l (f := g) (X := X) (r := r) (cs := cs) (W := wk r n) (P := l) (z := Zn n) hP (fun e he => work_l n e (g + 1) (ok_mem h.2 he) (by have := ht_mem he; omega) (by omega)) hk s (by omega)
    exact find_l (g + 2) sl (toDs false l) _ _ s ha
end
section
variable {X : Sto} {r : Bool}
abbrev chD (r sl : Bool) (ad : T4) (m : Dv) (cs : List Dv) : Dv := .tup (.str (sideS r) :: .str (sS sl) :: m :: .str (aS ad) :: cs)
theorem at3 (d x y z : Dv) (r : List Dv) : atI (d :: x :: y :: z :: r) 3 = some z := by unfold atI; rw [ixN_ok (by omega) (by simp only [List.length_cons]; omega)]; rfl
variable {sl : Bool} {ad : T4} {m : Dv} {cs : List Dv}
theorem wk5_l {e : Ex} (he : okE e) (h4 : htE e ≤ 4) {f : Nat} (hf : 16 ≤ f) (s : Ws) (hM : mu s ≤ 14000000) : calls f .l_work (ls X (chD r sl ad m cs) s) [.hdl (X.length + 1), toD false e] = .ok (boxD (wk r 5 e s)) (ls X (chD r sl ad m cs) (wk r 5 e s)) := by
  have z5 := zn5
  exact work_l 5 e f he (by omega) (by omega) s (by omega)
theorem fd3_l {p : Ex} (hp : okE p) (hpl : isPl p = true) (h3 : htE p ≤ 3) {f : Nat} (hf : 12 ≤ f) (s : Ws) (hM : mu s ≤ 14000000) : calls f .l_find (ls X (chD r sl ad m cs) s) [.hdl (X.length + 1), toD false p] = .ok (sptD (findW r 3 p s).2) (ls X (chD r sl ad m cs) (findW r 3 p s).1) := by
  have z3 := zn3
  exact findp_l hp hpl h3 (by omega) s (by omega)
theorem sAsg_c {i : Nat} {g : DF} {fa : DA} {e : Env} {S S0 S1 : Sto} {as : List Dv} {v : Dv} (ha : fa e S = .ok as S0) (hg : g S0 as = .ok v S1) : sAsg i (eCall g fa) e S = .nx (e.set i (.va v)) S1 := by simp [ha, hg]
theorem sExpr_c {g : DF} {fa : DA} {e : Env} {S S0 S1 : Sto} {as : List Dv} {v : Dv} (ha : fa e S = .ok as S0) (hg : g S0 as = .ok v S1) : sExpr (eCall g fa) e S = .nx e S1 := by simp [ha, hg]
theorem eC_ok {g : DF} {fa : DA} {e : Env} {S S0 S1 : Sto} {as : List Dv} {v : Dv} (ha : fa e S = .ok as S0) (hg : g S0 as = .ok v S1) : eCall g fa e S = .ok v S1 := by simp [ha, hg]
theorem set_l {p e : Ex} (hp : okE p) (hpl : isPl p = true) (h3 : htE p ≤ 3) (he : okE e) (h4 : htE e ≤ 4) {f : Nat} (hf : 16 ≤ f) (s : Ws) (hM : mu s ≤ 13000000) : calls (f + 1) .l_do_set (ls X (chD r sl ad m cs) s) [.hdl (X.length + 1), toD false p, toD false e] = .ok .non (ls X (chD r sl ad m cs) (setW sl r p e s)) := by
  obtain ⟨g, rfl⟩ : ∃ g, f = g + 1 := ⟨f - 1, by omega⟩
  have z3 := zn3
  have z5 := zn5
  have hs : eBin ixD (eBin ixD (eVar 0) (eC (.int 2))) (eC (.int 1)) [.va (.hdl (X.length + 1)), .va (toD false p), .va (toD false e), .no, .no] (ls X (chD r sl ad m cs) s) = .ok (.str (sS sl)) (ls X (chD r sl ad m cs) s) := by
    simp [lst_1, at1, at2]
  rw [ev_l_do_set, fb_l_do_set, sIf_e hs]
  unfold setW
  cases sl with
  | true =>
    rw [show sS true = "last" from rfl, if_neg k_lf, if_pos rfl]
    have l1 := wk_len r 5 e s he
    have l2 := find_len r 3 p (wk r 5 e s) hp
    have m2 := mu2 (findW r 3 p (wk r 5 e s)).1
    have w1 := wk5_l (X := X) (r := r) (sl := true) (ad := ad) (m := m) (cs := cs) he h4 (f := g + 1) (by omega) s (by omega)
    have w2 := fd3_l (X := X) (r := r) (sl := true) (ad := ad) (m := m) (cs := cs) hp hpl h3 (f := g + 1) (by omega) (wk r 5 e s) (by omega)
    have w3 := store_l (X := X) (C := chD r true ad m cs) g (findW r 3 p (wk r 5 e s)).2 (boxD (wk r 5 e s)) (findW r 3 p (wk r 5 e s)).1 (find_ok' hp) (by omega)
    have s1 : sAsg 4 (eCall (calls (g + 1) .l_work) (aCons (eVar 0) (aCons (eVar 2) aNil))) [.va (.hdl (X.length + 1)), .va (toD false p), .va (toD false e), .no, .no] (ls X (chD r true ad m cs) s) = .nx [.va (.hdl (X.length + 1)), .va (toD false p), .va (toD false e), .no, .va (boxD (wk r 5 e s))] (ls X (chD r true ad m cs) (wk r 5 e s)) := sAsg_c (a2_ok (eV rfl) (eV rfl)) w1
    rw [ev_seq, s1, kSeq_nx, sExpr_c (a3_ok (eV rfl) (eC_ok (a2_ok (eV rfl) (eV rfl)) w2) (eV rfl)) w3]
    rfl
  | false =>
    rw [show sS false = "first" from rfl, if_pos rfl, if_neg Bool.false_ne_true]
    have l2 := find_len r 3 p s hp
    have l1 := wk_len r 5 e (findW r 3 p s).1 he
    have m2 := mu2 (wk r 5 e (findW r 3 p s).1)
    have w2 := fd3_l (X := X) (r := r) (sl := false) (ad := ad) (m := m) (cs := cs) hp hpl h3 (f := g + 1) (by omega) s (by omega)
    have w1 := wk5_l (X := X) (r := r) (sl := false) (ad := ad) (m := m) (cs := cs) he h4 (f := g + 1) (by omega) (findW r 3 p s).1 (by omega)
    have w3 := store_l (X := X) (C := chD r false ad m cs) g (findW r 3 p s).2 (boxD (wk r 5 e (findW r 3 p s).1)) (wk r 5 e (findW r 3 p s).1) (find_ok' hp) (by omega)
    have s1 : sAsg 3 (eCall (calls (g + 1) .l_find) (aCons (eVar 0) (aCons (eVar 1) aNil))) [.va (.hdl (X.length + 1)), .va (toD false p), .va (toD false e), .no, .no] (ls X (chD r false ad m cs) s) = .nx [.va (.hdl (X.length + 1)), .va (toD false p), .va (toD false e), .va (sptD (findW r 3 p s).2), .no] (ls X (chD r false ad m cs) (findW r 3 p s).1) := sAsg_c (a2_ok (eV rfl) (eV rfl)) w2
    rw [ev_seq, s1, kSeq_nx, sExpr_c (a3_ok (eV rfl) (eV rfl) (eC_ok (a2_ok (eV rfl) (eV rfl)) w1)) w3]
    rfl
end
end DL
namespace DL
open PySem L2
def deedS : T4 → Str | .a => "frw" | .b => "fwr" | .c => "wfr" | .d => ""
def deeds : T4 → List Dv
  | .a => [.str "f", .str "r", .str "w"]
  | .b => [.str "f", .str "w", .str "r"]
  | .c => [.str "w", .str "f", .str "r"]
  | .d => []
def tabA : DE := eFrzD (dDisp (pCons (eC (.str "early")) (eC (.str "frw")) (pCons (eC (.str "late")) (eC (.str "fwr")) (pCons (eC (.str "last")) (eC (.str "wfr")) pNil))))
theorem tabA_ok (e : Env) (S : Sto) : tabA e S = .ok (.dic [(.inr "early", .str "frw"), (.inr "late", .str "fwr"), (.inr "last", .str "wfr")]) S := by kernel_rfl
theorem getA (ad : T4) (h : ad ≠ .d) (S : Sto) : dgetD S (.dic [(.inr "early", .str "frw"), (.inr "late", .str "fwr"), (.inr "last", .str "wfr")]) (.str (aS ad)) = some (.str (deedS ad), S) := by
  cases ad
  · kernel_rfl
  · kernel_rfl
  · kernel_rfl
  · exact absurd rfl h
theorem seqA (ad : T4) (S : Sto) : seqR (.str (deedS ad)) S = .ok (deeds ad) S := by
  cases ad <;> kernel_rfl
theorem itA {f : DE} {e : Env} {S : Sto} {ad : T4} (h : ad ≠ .d) (hf : f e S = .ok (.str (aS ad)) S) : iSq (eBin dgetD tabA f) e S = .ok (deeds ad) S := by
  have h1 := tabA_ok e S
  have h2 := getA ad h S
  have h3 := seqA ad S
  generalize tabA = Q at *
  generalize ([(.inr "early", .str "frw"), (.inr "late", .str "fwr"), (.inr "last", .str "wfr")] : List (Key × Dv)) = D at *
  simp [h1, hf, h2, h3]
theorem k_rf : ¬ (("r" : Str) = "f") := by decide +kernel
theorem k_wf : ¬ (("w" : Str) = "f") := by decide +kernel
theorem k_wr : ¬ (("w" : Str) = "r") := by decide +kernel
section
variable {X : Sto} {r sl : Bool} {ad : T4} {m : Dv} {cs : List Dv}
abbrev dE (X : Sto) (dp de a3 a4 a5 a6 : Sl) : Env := [.va (.hdl (X.length + 1)), dp, de, a3, a4, a5, a6]
theorem gN6 (x : Dv) (s0 s1 s2 s3 s4 s5 : Sl) {s6 : Sl} : gN 6 x [s0, s1, s2, s3, s4, s5, s6] = some [s0, s1, s2, s3, s4, s5, .va x] := rfl
theorem deed_f {p : Ex} (hp : okE p) (hpl : isPl p = true) (h3 : htE p ≤ 3) {f : Nat} (hf : 12 ≤ f) (s : Ws) (hM : mu s ≤ 14000000) (de a3 a4 a5 : Sl) : fb_l_do_add_l0 (calls f) (dE X (.va (toD false p)) de a3 a4 a5 (.va (.str "f"))) (ls X (chD r sl ad m cs) s) = .nx (dE X (.va (toD false p)) de (.va (sptD (findW r 3 p s).2)) a4 a5 (.va (.str "f"))) (ls X (chD r sl ad m cs) (findW r 3 p s).1) := by
  rw [fb_l_do_add_l0, sIf_v rfl, if_pos rfl]
  exact sAsg_c (a2_ok (eV rfl) (eV rfl)) (fd3_l hp hpl h3 hf s hM)
theorem deed_r {f : Nat} (hf : 2 ≤ f) (q : Spot) (hq : SpOk q) (s : Ws) (hM : mu s ≤ 14000000) (dp de a4 a5 : Sl) : fb_l_do_add_l0 (calls f) (dE X dp de (.va (sptD q)) a4 a5 (.va (.str "r"))) (ls X (chD r sl ad m cs) s) = .nx (dE X dp de (.va (sptD q)) (.va (boxD (lookW q s))) a5 (.va (.str "r"))) (ls X (chD r sl ad m cs) (lookW q s)) := by
  obtain ⟨g, rfl⟩ : ∃ g, f = g + 2 := ⟨f - 2, by omega⟩
  rw [fb_l_do_add_l0, sIf_v rfl, if_neg k_rf, sIf_v rfl, if_pos rfl]
  exact sAsg_c (a2_ok (eV rfl) (eV rfl)) (look_l g q s hq (by have := mu2 s; omega))
theorem deed_w {e : Ex} (he : okE e) (h4 : htE e ≤ 4) {f : Nat} (hf : 16 ≤ f) (s : Ws) (hM : mu s ≤ 14000000) (dp a3 a4 a5 : Sl) : fb_l_do_add_l0 (calls f) (dE X dp (.va (toD false e)) a3 a4 a5 (.va (.str "w"))) (ls X (chD r sl ad m cs) s) = .nx (dE X dp (.va (toD false e)) a3 a4 (.va (boxD (wk r 5 e s))) (.va (.str "w"))) (ls X (chD r sl ad m cs) (wk r 5 e s)) := by
  rw [fb_l_do_add_l0, sIf_v rfl, if_neg k_wf, sIf_v rfl, if_neg k_wr]
  exact sAsg_c (a2_ok (eV rfl) (eV rfl)) (wk5_l he h4 hf s hM)
theorem fin_l (g : Nat) (dp de a6 : Sl) (o v : Dv) (q : Spot) (s : Ws) (hq : SpOk q) (hM : mu s ≤ 14000000) : sRet (eCall (calls (g + 1) .l_store) (aCons (eVar 0) (aCons (eVar 3) (aCons (eCall (calls (g + 1) .l_call) (aCons (eVar 0) (aCons (eC (.str "add")) (aCons (eFrz (fLst (aCons (eVar 4) (aCons (eVar 5) aNil)))) aNil)))) aNil)))) (dE X dp de (.va (sptD q)) (.va o) (.va v) a6) (ls X (chD r sl ad m cs) s) = .rt .non (ls X (chD r sl ad m cs) (storeW q (boxD (cadd s o v)) (cadd s o v))) := by
  have m2 := mu2 s
  have m3 := mu2 (cadd s o v)
  rw [mu_cadd] at m3
  have w1 := l_call_ok X (chD r sl ad m cs) s g "add" [o, v] (by omega)
  have w3 := store_l (X := X) (C := chD r sl ad m cs) g q (boxD (cadd s o v)) (cadd s o v) hq (by omega)
  have el : ∀ S, kLst [o, v] S = .ok [o, v] S := fun S => kLst_ok _ _ (line_le _ (by simp))
  exact lc_2 _ _ _ _ _ _ _ _ (a3_ok (eV rfl) (eV rfl) (eC_ok (a3_ok (eV rfl) rfl (by simp [el])) w1)) w3
theorem add_l {p e : Ex} (hp : okE p) (hpl : isPl p = true) (h3 : htE p ≤ 3) (he : okE e) (h4 : htE e ≤ 3) {f : Nat} (hf : 18 ≤ f) (s : Ws) (hM : mu s ≤ 12000000) : calls (f + 1) .l_do_add (ls X (chD r sl ad m cs) s) [.hdl (X.length + 1), toD false p, toD false e] = .ok .non (ls X (chD r sl ad m cs) (addW ad sl r p e s)) := by
  obtain ⟨g, rfl⟩ : ∃ g, f = g + 1 := ⟨f - 1, by omega⟩
  have z3 := zn3
  have z5 := zn5
  have hs : ∀ a3 a4 a5 a6, eBin ixD (eBin ixD (eVar 0) (eC (.int 2))) (eC (.int 3)) (dE X (.va (toD false p)) (.va (toD false e)) a3 a4 a5 a6) (ls X (chD r sl ad m cs) s) = .ok (.str (aS ad)) (ls X (chD r sl ad m cs) s) := fun a3 a4 a5 a6 => by
    simp [lst_1, at2, at3]
  rw [ev_l_do_add, fb_l_do_add, ev_seq]
  rw [show ([.va (.hdl (X.length + 1)), .va (toD false p), .va (toD false e), .no, .no, .no, .no] : Env) = dE X (.va (toD false p)) (.va (toD false e)) .no .no .no .no from rfl]
  rw [sIf_e (hs _ _ _ _)]
  by_cases hd : ad = .d
  · subst hd
    rw [if_pos ((a_tw .d).mpr rfl)]
    have w := set_l (X := X) (r := r) (sl := sl) (ad := .d) (m := m) (cs := cs) hp hpl h3 (ok_add hp he) (by show max (htE p) (max (htE e) 0) + 1 ≤ 4; omega) (f := g) (by omega) s (by omega)
    have w' : calls (g + 1) .l_do_set (ls X (chD r sl .d m cs) s) [.hdl (X.length + 1), toD false p, .tup [.str "call", .str "add", .tup [toD false p, toD false e]]] = .ok .non (ls X (chD r sl .d m cs) (setW sl r p (addE p e) s)) := w
    show _ = Res.ok Dv.non (ls X (chD r sl .d m cs) (setW sl r p (addE p e) s))
    generalize ls X (chD r sl .d m cs) (setW sl r p (addE p e) s) = S1 at *
    clear hs
    generalize ls X (chD r sl .d m cs) s = S0 at *
    generalize toD false p = dp at *
    generalize toD false e = de at *
    simp [w']
  · rw [if_neg (fun z => hd ((a_tw ad).mp z))]
    have n1 : sAsgG (gT (gsCons (gN 3) (gsCons (gN 4) (gsCons (gN 5) gsNil)))) (eTup (aCons (eC .non) (aCons (eC .non) (aCons (eC .non) aNil)))) (dE X (.va (toD false p)) (.va (toD false e)) .no .no .no .no) (ls X (chD r sl ad m cs) s) = .nx (dE X (.va (toD false p)) (.va (toD false e)) (.va .non) (.va .non) (.va .non) .no) (ls X (chD r sl ad m cs) s) := by
      simp
    have fz : ∀ (q : Spot) (s : Ws) (o v : Dv) (a6 : Sl), SpOk q → mu s ≤ 14000000 → sRet (eCall (calls (g + 1) .l_store) (aCons (eVar 0) (aCons (eVar 3) (aCons (eCall (calls (g + 1) .l_call) (aCons (eVar 0) (aCons (eC (.str "add")) (aCons (eFrz (fLst (aCons (eVar 4) (aCons (eVar 5) aNil)))) aNil)))) aNil)))) (dE X (.va (toD false p)) (.va (toD false e)) (.va (sptD q)) (.va o) (.va v) a6) (ls X (chD r sl ad m cs) s) = .rt .non (ls X (chD r sl ad m cs) (storeW q (boxD (cadd s o v)) (cadd s o v))) := fun q s o v a6 hq h => fin_l g _ _ _ o v q s hq h
    have it := itA (f := eBin ixD (eBin ixD (eVar 0) (eC (.int 2))) (eC (.int 3))) hd (hs (.va .non) (.va .non) (.va .non) .no)
    have key : ∃ (q : Spot) (s' : Ws) (o v : Dv) (a6 : Sl), SpOk q ∧ mu s' ≤ 14000000 ∧ forR (gN 6) (fb_l_do_add_l0 (calls (g + 1))) (deeds ad) (dE X (.va (toD false p)) (.va (toD false e)) (.va .non) (.va .non) (.va .non) .no) (ls X (chD r sl ad m cs) s) = .nx (dE X (.va (toD false p)) (.va (toD false e)) (.va (sptD q)) (.va o) (.va v) a6) (ls X (chD r sl ad m cs) s') ∧ addW ad sl r p e s = storeW q (boxD (cadd s' o v)) (cadd s' o v) := by
      cases ad with
      | d => exact absurd rfl hd
      | a =>
        have l2 := find_len r 3 p s hp
        have l3 := mu_look (findW r 3 p s).2 (findW r 3 p s).1
        have l1 := wk_len r 5 e (lookW (findW r 3 p s).2 (findW r 3 p s).1) he
        refine ⟨(findW r 3 p s).2, wk r 5 e (lookW (findW r 3 p s).2 (findW r 3 p s).1), boxD (lookW (findW r 3 p s).2 (findW r 3 p s).1), boxD (wk r 5 e (lookW (findW r 3 p s).2 (findW r 3 p s).1)), .va (.str "w"), find_ok' hp, by omega, ?_, rfl⟩
        show forR _ _ [.str "f", .str "r", .str "w"] _ _ = _
        rw [forR_nx (gN6 _ _ _ _ _ _ _) (deed_f hp hpl h3 (by omega) s (by omega) _ _ _ _), forR_nx (gN6 _ _ _ _ _ _ _) (deed_r (by omega) _ (find_ok' hp) _ (by omega) _ _ _ _), forR_nx (gN6 _ _ _ _ _ _ _) (deed_w he (by omega) (by omega) _ (by omega) _ _ _ _)]
        rfl
      | b =>
        have l2 := find_len r 3 p s hp
        have l1 := wk_len r 5 e (findW r 3 p s).1 he
        have l3 := mu_look (findW r 3 p s).2 (wk r 5 e (findW r 3 p s).1)
        refine ⟨(findW r 3 p s).2, lookW (findW r 3 p s).2 (wk r 5 e (findW r 3 p s).1), boxD (lookW (findW r 3 p s).2 (wk r 5 e (findW r 3 p s).1)), boxD (wk r 5 e (findW r 3 p s).1), .va (.str "r"), find_ok' hp, by omega, ?_, rfl⟩
        show forR _ _ [.str "f", .str "w", .str "r"] _ _ = _
        rw [forR_nx (gN6 _ _ _ _ _ _ _) (deed_f hp hpl h3 (by omega) s (by omega) _ _ _ _), forR_nx (gN6 _ _ _ _ _ _ _) (deed_w he (by omega) (by omega) _ (by omega) _ _ _ _), forR_nx (gN6 _ _ _ _ _ _ _) (deed_r (by omega) _ (find_ok' hp) _ (by omega) _ _ _ _)]
        rfl
      | c =>
        have l1 := wk_len r 5 e s he
        have l2 := find_len r 3 p (wk r 5 e s) hp
        have l3 := mu_look (findW r 3 p (wk r 5 e s)).2 (findW r 3 p (wk r 5 e s)).1
        refine ⟨(findW r 3 p (wk r 5 e s)).2, lookW (findW r 3 p (wk r 5 e s)).2 (findW r 3 p (wk r 5 e s)).1, boxD (lookW (findW r 3 p (wk r 5 e s)).2 (findW r 3 p (wk r 5 e s)).1), boxD (wk r 5 e s), .va (.str "r"), find_ok' hp, by omega, ?_, rfl⟩
        show forR _ _ [.str "w", .str "f", .str "r"] _ _ = _
        rw [forR_nx (gN6 _ _ _ _ _ _ _) (deed_w he (by omega) (by omega) _ (by omega) _ _ _ _), forR_nx (gN6 _ _ _ _ _ _ _) (deed_f hp hpl h3 (by omega) _ (by omega) _ _ _ _), forR_nx (gN6 _ _ _ _ _ _ _) (deed_r (by omega) _ (find_ok' hp) _ (by omega) _ _ _ _)]
        rfl
    obtain ⟨q, s', o, v, a6, hq, hm, hfor, he'⟩ := key
    rw [he']
    have hz := fz q s' o v a6 hq hm
    clear fz he' hs
    show kRun (kSeq (sSeq _ (sSeq (sFor (iSq (eBin dgetD tabA (eBin ixD (eBin ixD (eVar 0) (eC (.int 2))) (eC (.int 3))))) (gN 6) (fb_l_do_add_l0 (calls (g + 1)))) _)) (Out.nx _ _)) = _
    rw [kSeq_nx, ev_seq, n1, kSeq_nx, ev_seq, ev_for, it, kS_ok, ev_qfor, hfor, kSeq_nx, hz]
    rfl
end
end DL
namespace DL
open PySem L2
section
variable {X : Sto} {r sl : Bool} {ad : T4} {m : Dv} {cs : List Dv}
theorem due_loop {f : Nat} (hf : 19 ≤ f) (s0 s1 : Sl) : ∀ (es : List Rw) (M : Ws) (s3 : Sl), RowsOk es → mu M + es.length * 900 ≤ 11000000 → ∃ z3, forR (gN 3) (fb_l_due_l0 (calls f)) (es.map rowD) [s0, s1, .va (.hdl (X.length + 1)), s3] (ls X (chD r sl ad m cs) M) = .nx [s0, s1, .va (.hdl (X.length + 1)), z3] (ls X (chD r sl ad m cs) (wks ad sl r es M))
  | [], M, s3, _, _ => ⟨s3, rfl⟩
  | e :: es, M, s3, h, hM => by
    have he := h e (List.mem_cons_self ..)
    rw [List.length_cons, Nat.succ_mul] at hM
    obtain ⟨g, rfl⟩ : ∃ g, f = g + 1 := ⟨f - 1, by omega⟩
    have h1 : calls (g + 1) (if e.a then .l_do_add else .l_do_set) (ls X (chD r sl ad m cs) M) [.hdl (X.length + 1), toD false e.p, toD false e.e] = .ok .non (ls X (chD r sl ad m cs) (rwW ad sl r e M)) := by
      unfold rwW
      cases e.a with
      | true => exact add_l he.p he.pl he.hp he.e he.he (by omega) M (by omega)
      | false => exact set_l he.p he.pl he.hp he.e (by have := he.he; omega) (by omega) M (by omega)
    have h2 := rw_len ad sl r M he
    obtain ⟨z3, hz⟩ := due_loop hf s0 s1 es (rwW ad sl r e M) (.va (rowD e)) (fun x hx => h x (List.mem_cons_of_mem _ hx)) (by omega)
    refine ⟨z3, ?_⟩
    rw [List.map_cons, forR_nx (e2 := [s0, s1, .va (.hdl (X.length + 1)), .va (rowD e)]) (S1 := ls X (chD r sl ad m cs) (rwW ad sl r e M)) rfl ?_]
    · exact hz
    · have e3 := fun S => rx0 e S
      have e4 := fun S => rx1 e S
      have e5 := fun S => rx2 e S
      generalize rwW ad sl r e M = M1 at *
      generalize ls X (chD r sl ad m cs) M = S0 at *
      generalize ls X (chD r sl ad m cs) M1 = S1 at *
      generalize rowD e = q at *
      generalize toD false e.p = dp at *
      generalize toD false e.e = de at *
      cases ha : e.a <;> simp [ha] at h1 <;> simp [ha, rwS] at e3 <;> simp [fb_l_due_l0, e3, e4, e5, k_as, h1]
theorem tuple_h {S : Sto} {k : Nat} {l : List Dv} (h : S[k]? = some (.lst l)) : tupleD S [.hdl k] = some (.tup l, S) := by
  unfold tupleD
  simp [asQ, asT, asL, h]
theorem due_ok {f : Nat} (hf : 19 ≤ f) {es : List Rw} (h : RowsOk es) (hM : es.length * 900 ≤ 11000000) (S : Sto) : calls (f + 1) .l_due S [chD r sl ad m cs, .lst (es.map rowD)] = .ok (.tup (wks ad sl r es (0, [])).2) (ls S (chD r sl ad m cs) (wks ad sl r es (0, []))) := by
  obtain ⟨z3, hz⟩ := due_loop (X := S) (r := r) (sl := sl) (ad := ad) (m := m) (cs := cs) hf (.va (chD r sl ad m cs)) (.va (.lst (es.map rowD))) es (0, []) .no h (by simpa [mu] using hM)
  generalize hC : chD r sl ad m cs = C at *
  generalize es.map rowD = rs at *
  generalize wks ad sl r es (0, []) = M1 at *
  have e0 : sAsg 2 (eNew (fLst (aCons (eC (.int 0)) (aCons (eNew (fLst aNil)) (aCons (eVar 0) aNil))))) [.va C, .va (.lst rs), .no, .no] S = .nx [.va C, .va (.lst rs), .va (.hdl (S.length + 1)), .no] (ls S C (0, [])) := by
    have el : ∀ S, kLst [Dv.int 0, .hdl S.length, C] S = .ok [Dv.int 0, .hdl S.length, C] S := fun S => kLst_ok _ _ (line_le _ (by simp))
    have el2 : ∀ S (k : Nat), kLst [Dv.int 0, .hdl k, C] S = .ok [Dv.int 0, .hdl k, C] S := fun S k => kLst_ok _ _ (line_le _ (by simp))
    simp [el2, ls, lst]
  have e1 : tupleD (ls S C M1) [.hdl S.length] = some (.tup M1.2, ls S C M1) := by
    exact tuple_h (lst_0 S C (M1.1 : Int) M1.2)
  rw [ev_l_due, fb_l_due, ev_seq, e0, kSeq_nx]
  have e2 := fun n M => lst_1 S C n M
  generalize fb_l_due_l0 (calls f) = F at *
  generalize hS0 : ls S C (0, []) = S0 at *
  have e3 := e2 M1.1 M1.2
  have e4 : ls S C M1 = lst S C M1.1 M1.2 := rfl
  rw [← e4] at e3
  generalize ls S C M1 = S1 at *
  simp [hz, e3, at1, e1]
end
structure Lg where
  p : Bool
  s : Bool
  m : T3
  a : T4
  t : Bool
  x : Bool
def pS : Bool → Str | false => "left" | true => "right"
def mS : T3 → Str | .a => "first" | .b => "last" | .c => "each"
def xS : Bool → Str | false => "once" | true => "twice"
def bN : Bool → Int | false => 0 | true => 1
def mN : T3 → Int | .a => 0 | .b => 1 | .c => 2
def aN : T4 → Int | .a => 0 | .b => 1 | .c => 2 | .d => 3
def Lg.rank (l : Lg) : Int := ((((bN l.p * 2 + bN l.s) * 3 + mN l.m) * 4 + aN l.a) * 2 + bN l.t) * 2 + bN l.x
def Lg.vals (l : Lg) : List Dv := [.str (pS l.p), .str (sS l.s), .str (mS l.m), .str (aS l.a), .str (pS l.t), .str (xS l.x)]
def lgD (l : Lg) : Dv := .obj "Language" [("given", .tup l.vals), ("rank", .int l.rank), ("parts", .str (pS l.p)), ("single", .str (sS l.s)), ("many", .str (mS l.m)), ("adding", .str (aS l.a)), ("stores", .str (pS l.t)), ("exchanging", .str (xS l.x))]
theorem init_ok (f : Nat) (S : Sto) (l : Lg) : kMk "Language" (calls (f + 1) .Language_init) l.vals S = .ok (lgD l) S := by
  obtain ⟨p, s, m, a, t, x⟩ := l
  cases p <;> cases s <;> cases m <;> cases a <;> cases t <;> cases x <;> kernel_rfl
theorem oneN_ok (f : Nat) {S : Sto} {b : Nat} (hB : BagAt S b) (ds : List Dv) (h0 : 0 < ds.length) (h1 : ds.length < 1000) : ∃ (n : Nat) (o : Ob) (h : n < ds.length), calls (f + 2) .l_one S [.hdl b, .lst ds] = .ok ds[n] (S.set b o) ∧ BagOk o := by
  obtain ⟨r, o, e, r0, r1, ho⟩ := take_ok f hB (n := ds.length) (by omega) (by omega)
  refine ⟨r.toNat, o, by omega, ?_, ho⟩
  rw [ev_l_one, fb_l_one]
  have : atI ds r = some ds[r.toNat] := by
    unfold atI
    rw [ixN_ok r0 r1]
    simp
  simp [e, this]
theorem language_ok (f : Nat) (S : Sto) (l : Lg) : calls (f + 2) .l_language S [.tup l.vals] = .ok (lgD l) S := by
  have key : calls (f + 2) .l_language S [.tup l.vals] = kRun (kS qRet [.va (.tup l.vals)] (kMk "Language" (calls (f + 1) .Language_init) l.vals S)) := by
    obtain ⟨p, s, m, a, t, x⟩ := l
    kernel_rfl
  rw [key, init_ok]; rfl
theorem choices_ok (f : Nat) {S : Sto} {b : Nat} (hB : BagAt S b) : ∃ (l : Lg) (o : Ob), calls (f + 3) .l_choices S [.hdl b] = .ok (.tup l.vals) (S.set b o) ∧ BagOk o := by
  obtain ⟨n1, o1, h1, e1, ho1⟩ := oneN_ok f hB [.str "left", .str "right"] (by decide) (by decide)
  have hB1 := hB.set ho1
  obtain ⟨n2, o2, h2, e2, ho2⟩ := oneN_ok f hB1 [.str "last", .str "first"] (by decide) (by decide)
  have hB2 := hB1.set ho2
  rw [List.set_set] at e2 hB2
  obtain ⟨n3, o3, h3, e3, ho3⟩ := oneN_ok f hB2 [.str "each", .str "first", .str "last"] (by decide) (by decide)
  have hB3 := hB2.set ho3
  rw [List.set_set] at e3 hB3
  obtain ⟨n4, o4, h4, e4, ho4⟩ := oneN_ok f hB3 [.str "early", .str "late", .str "last", .str "twice"] (by decide) (by decide)
  have hB4 := hB3.set ho4
  rw [List.set_set] at e4 hB4
  obtain ⟨n5, o5, h5, e5, ho5⟩ := oneN_ok f hB4 [.str "left", .str "right"] (by decide) (by decide)
  have hB5 := hB4.set ho5
  rw [List.set_set] at e5 hB5
  obtain ⟨n6, o6, h6, e6, ho6⟩ := oneN_ok f hB5 [.str "once", .str "twice"] (by decide) (by decide)
  rw [List.set_set] at e6
  have k1 : ∃ p : Bool, [Dv.str "left", .str "right"][n1] = .str (pS p) := by
    rcases n1 with _ | _ | n
    · exact ⟨false, rfl⟩
    · exact ⟨true, rfl⟩
    · simp at h1; omega
  have k2 : ∃ p : Bool, [Dv.str "last", .str "first"][n2] = .str (sS p) := by
    rcases n2 with _ | _ | n
    · exact ⟨true, rfl⟩
    · exact ⟨false, rfl⟩
    · simp at h2; omega
  have k3 : ∃ p : T3, [Dv.str "each", .str "first", .str "last"][n3] = .str (mS p) := by
    rcases n3 with _ | _ | _ | n
    · exact ⟨.c, rfl⟩
    · exact ⟨.a, rfl⟩
    · exact ⟨.b, rfl⟩
    · simp at h3; omega
  have k4 : ∃ p : T4, [Dv.str "early", .str "late", .str "last", .str "twice"][n4] = .str (aS p) := by
    rcases n4 with _ | _ | _ | _ | n
    · exact ⟨.a, rfl⟩
    · exact ⟨.b, rfl⟩
    · exact ⟨.c, rfl⟩
    · exact ⟨.d, rfl⟩
    · simp at h4; omega
  have k5 : ∃ p : Bool, [Dv.str "left", .str "right"][n5] = .str (pS p) := by
    rcases n5 with _ | _ | n
    · exact ⟨false, rfl⟩
    · exact ⟨true, rfl⟩
    · simp at h5; omega
  have k6 : ∃ p : Bool, [Dv.str "once", .str "twice"][n6] = .str (xS p) := by
    rcases n6 with _ | _ | n
    · exact ⟨false, rfl⟩
    · exact ⟨true, rfl⟩
    · simp at h6; omega
  obtain ⟨p, k1⟩ := k1
  obtain ⟨s, k2⟩ := k2
  obtain ⟨m, k3⟩ := k3
  obtain ⟨a, k4⟩ := k4
  obtain ⟨t, k5⟩ := k5
  obtain ⟨x, k6⟩ := k6
  rw [k1] at e1; rw [k2] at e2; rw [k3] at e3; rw [k4] at e4; rw [k5] at e5; rw [k6] at e6
  refine ⟨⟨p, s, m, a, t, x⟩, o6, ?_, ho6⟩
  rw [ev_l_choices, fb_l_choices]
  simp [e1, e2, e3, e4, e5, e6, Lg.vals]
theorem side_eq (l : Lg) : pS l.p = sideS l.p := by cases h : l.p <;> rfl
theorem lg_parts (l : Lg) (S : Sto) : kFld "Language" "parts" (lgD l) S = .ok (.str (sideS l.p)) S := by
  rw [← side_eq]
  obtain ⟨p, s, m, a, t, x⟩ := l
  rfl
theorem lg_f (l : Lg) : LgF (lgD l) l.a l.s l.p := ⟨lg_parts l, fun S => by obtain ⟨p, s, m, a, t, x⟩ := l; rfl, fun S => by obtain ⟨p, s, m, a, t, x⟩ := l; rfl⟩
theorem end_0 (X : Sto) (o : Ob) (T : Sto) : (X ++ o :: T)[X.length]? = some o := by simp
theorem end_s (X : Sto) (o q : Ob) (T : Sto) : (X ++ o :: T).set X.length q = X ++ q :: T := by simp
theorem setF_end (X T : Sto) (c f : Str) (fs : List (Str × Dv)) (v : Dv) (h : fs.length < 1000) : setF c f (X ++ .ins c fs :: T) (.hdl X.length) v = some (X ++ .ins c (putFD f v fs) :: T) := by
  unfold setF
  simp only [end_0, end_s]
  rw [if_pos ⟨trivial, h⟩]
theorem binit_ok (f : Nat) (X : Sto) (L : Dv) : calls (f + 1) .Builder_init (X ++ [.ins "Builder" []]) [.hdl X.length, L] = .ok .non (bs X L (0, [])) := by
  have p1 : putFD "rules" L [] = [(("rules" : Str), L)] := by kernel_rfl
  have p2 : ∀ v : Dv, putFD "made" v [(("rules" : Str), L)] = [(("rules" : Str), L), ("made", v)] := fun v => by kernel_rfl
  have p3 : ∀ v w : Dv, putFD "boxes" w [(("rules" : Str), L), ("made", v)] = [(("rules" : Str), L), ("made", v), ("boxes", w)] := fun v w => by kernel_rfl
  have s1 : sFldH "Builder" "rules" (eVar 0) (eVar 1) [.va (.hdl X.length), .va L] (X ++ [.ins "Builder" []]) = .nx [.va (.hdl X.length), .va L] (X ++ [.ins "Builder" [("rules", L)]]) := by
    refine fldH_ok (v := L) (o := .hdl X.length) (S1 := X ++ [.ins "Builder" []]) (S2 := X ++ [.ins "Builder" []]) rfl rfl ?_
    rw [setF_end X [] "Builder" "rules" [] L (by simp), p1]
  have s2 : sFldH "Builder" "made" (eVar 0) (eNew (fLst aNil)) [.va (.hdl X.length), .va L] (X ++ [.ins "Builder" [("rules", L)]]) = .nx [.va (.hdl X.length), .va L] (X ++ [.ins "Builder" [("rules", L), ("made", .hdl (X.length + 1))], .lst []]) := by
    refine fldH_ok (v := .hdl (X.length + 1)) (o := .hdl X.length) (S1 := X ++ [.ins "Builder" [("rules", L)], .lst []]) (S2 := X ++ [.ins "Builder" [("rules", L)], .lst []]) (by simp) rfl ?_
    rw [setF_end X [.lst []] "Builder" "made" [("rules", L)] _ (by simp), p2]
  have s3 : sFldH "Builder" "boxes" (eVar 0) (eC (.int 0)) [.va (.hdl X.length), .va L] (X ++ [.ins "Builder" [("rules", L), ("made", .hdl (X.length + 1))], .lst []]) = .nx [.va (.hdl X.length), .va L] (bs X L (0, [])) := by
    refine fldH_ok (v := .int 0) (o := .hdl X.length) (S1 := X ++ [.ins "Builder" [("rules", L), ("made", .hdl (X.length + 1))], .lst []]) (S2 := X ++ [.ins "Builder" [("rules", L), ("made", .hdl (X.length + 1))], .lst []]) rfl rfl ?_
    rw [setF_end X [.lst []] "Builder" "boxes" [("rules", L), ("made", .hdl (X.length + 1))] _ (by simp), p3]
    rfl
  rw [ev_Builder_init, fb_Builder_init, ev_seq, s1, kSeq_nx, ev_seq, s2, kSeq_nx, s3]
  rfl
theorem bmk_ok (f : Nat) (X : Sto) (L : Dv) : kMkH "Builder" (calls (f + 1) .Builder_init) [L] X = .ok (.hdl X.length) (bs X L (0, [])) := by
  unfold kMkH
  rw [binit_ok]
  rfl
theorem rows_ok (f : Nat) (es : List Rw) (S : Sto) : calls (f + 1) .Program_rows S [pgD es] = .ok (.tup (es.map rowD)) S := by
  unfold pgD
  generalize es.map rowD = rs
  kernel_rfl
theorem m_rows {g : DF} {fa : DA} {e : Env} (es : List Rw) (S : Sto) : kMeth "Program" "rows" [] g fa e (pgD es) S = bnd (fa e S) (kMe2 [] g (pgD es)) := by
  unfold pgD
  exact kMeth_obj (h := by kernel_rfl) ..
def outW (l : Lg) (es : List Rw) : Ws := wks l.a l.s l.p es (0, [])
theorem steps_ok {f : Nat} (hf : 19 ≤ f) {es : List Rw} (h : RowsOk es) (hM : es.length * 900 ≤ 11000000) (l : Lg) (S : Sto) : calls (f + 2) .steps S [pgD es, lgD l] = .ok (.tup (outW l es).2) (bs S (lgD l) (outW l es)) := by
  obtain ⟨z2, hz⟩ := rows_loop (X := S) (L := lgD l) (r := l.p) (lg_f l) hf (.va (.tup (es.map rowD))) es (0, []) .no h (by simpa [mu] using hM)
  change forR _ _ _ _ _ = Out.nx _ (bs S (lgD l) (outW l es)) at hz
  have e1 := bmk_ok f S (lgD l)
  have e2 := fun S => rows_ok f es S
  have e3 : calls (f + 1) .build_rows (bs S (lgD l) (0, [])) [.hdl S.length, .tup (es.map rowD)] = .ok .non (bs S (lgD l) (outW l es)) := by
    rw [ev_build_rows, fb_build_rows]
    generalize es.map rowD = rs at *
    generalize outW l es = M1 at *
    generalize bs S (lgD l) (0, []) = S0 at *
    generalize bs S (lgD l) M1 = S1 at *
    simp [hz]
  have e4 : ∀ {g : DF} {fa : DA} {e : Env} (S), kMeth "Program" "rows" [] g fa e (pgD es) S = bnd (fa e S) (kMe2 [] g (pgD es)) := fun S => m_rows es S
  clear hz
  generalize outW l es = M1 at *
  have e5 := fld_made S (lgD l) M1.1 M1.2
  have e6 : tupleD (bs S (lgD l) M1) [.hdl (S.length + 1)] = some (.tup M1.2, bs S (lgD l) M1) := tuple_h (bst_1 S (lgD l) _ M1.2)
  generalize es.map rowD = rs at *
  generalize pgD es = pg at *
  generalize lgD l = L at *
  have s1 : sAsg 2 (eMkH "Builder" dl_Builder_1 (calls (f + 1) .Builder_init) (aCons (eVar 1) aNil)) [.va pg, .va L, .no] S = .nx [.va pg, .va L, .va (.hdl S.length)] (bs S L (0, [])) := by
    have : eMkH "Builder" dl_Builder_1 (calls (f + 1) .Builder_init) (aCons (eVar 1) aNil) [.va pg, .va L, .no] S = kMkH "Builder" (calls (f + 1) .Builder_init) [L] S := rfl
    rw [ev_asg, this, e1]
    rfl
  rw [ev_steps, fb_steps, ev_seq, s1, kSeq_nx]
  generalize bs S L (0, []) = S0 at *
  change kFld "Builder" "made" (.hdl S.length) (bs S L M1) = .ok _ (bs S L M1) at e5
  generalize bs S L M1 = S1 at *
  simp [e4, e2, e3, e5, e6]
theorem lcall_ok {f : Nat} (hf : 19 ≤ f) {es : List Rw} (h : RowsOk es) (hM : es.length * 900 ≤ 11000000) (l : Lg) (S : Sto) : calls (f + 3) .Language_call S [lgD l, pgD es] = .ok (.tup (outW l es).2) (bs S (lgD l) (outW l es)) := by
  have e1 := steps_ok hf h hM l S
  generalize pgD es = pg at *
  generalize bs S (lgD l) (outW l es) = S1 at *
  generalize outW l es = M1 at *
  generalize lgD l = L at *
  simp [ev_Language_call, fb_Language_call, e1]
end DL
namespace DL
open PySem L2
theorem int_len : ∀ k : _root_.Fin 4097, (PyData.int ((k.1 : Nat) : Int)).showable = true ∧ ((PyData.int ((k.1 : Nat) : Int)).shown.length ≤ 100) := by decide +kernel
def IntS (d : Dv) : Prop := ∃ k : Nat, k ≤ 4096 ∧ d = .int (k : Int)
theorem leaf_int {d : Dv} (h : IntS d) : Leaf d := by
  obtain ⟨k, hk, rfl⟩ := h
  exact ⟨trivial, rfl, .int k, fun m S => by cases m <;> rfl, (int_len ⟨k, by omega⟩).1, Nat.zero_le _, (int_len ⟨k, by omega⟩).2⟩
theorem pl_ints {d : Dv} (h : IntS d) (n : Nat) : Pl n d := by
  obtain ⟨k, hk, rfl⟩ := h
  exact pl_int n k
def Ent (d : Dv) : Prop := Tr 2 1000 d ∧ Pl 3 d
theorem ints_tr : ∀ {b : List Dv}, (∀ d ∈ b, IntS d) → TrL 0 (102 * b.length) b
  | [], _ => .nil
  | d :: b, h => .cons (w := 100) (v := 102 * b.length) (.leaf (leaf_int (h d (List.mem_cons_self ..))) (Nat.le_refl _)) (ints_tr fun x hx => h x (List.mem_cons_of_mem _ hx)) (by simp only [List.length_cons]; omega)
theorem tr_str {x : Str} (h : LfS x) {n : Nat} : Tr n 100 (.str x) := .leaf h.1 (Nat.le_refl _)
theorem pl_strs {x : Str} (h : LfS x) (n : Nat) : Pl n (.str x) := pl_str h.2
theorem kw_get : LfS "get" := strB_ok (by decide +kernel)
theorem kw_cut : LfS "cut" := strB_ok (by decide +kernel)
theorem kw_word : LfS "word" := strB_ok (by decide +kernel)
theorem kw_read : LfS "read" := strB_ok (by decide +kernel)
theorem num_int {s : Ws} (h : mu s ≤ 4096) : IntS (numD s) := ⟨s.1, by have := mu1 s; omega, rfl⟩
theorem box_int {s : Ws} (h : mu s ≤ 4096) : IntS (boxD s) := ⟨s.1 - 1, by have := mu1 s; omega, rfl⟩
theorem ent_call {s : Ws} {b : List Dv} {g : Str} (hM : mu s ≤ 4096) (hs : LfS g) (hb : ∀ d ∈ b, IntS d) (hl : b.length ≤ 4) : Ent (callD s g b) := by
  have h1 := num_int hM
  have t1 : Tr 1 105 (.tup [numD s]) := .seq (w := 102) (.inl rfl) (.cons (w := 100) (v := 0) (.leaf (leaf_int h1) (Nat.le_refl _)) .nil (by omega)) (by omega)
  have t2 : Tr 1 411 (.tup b) := .seq (.inl rfl) (ints_tr hb) (by omega)
  refine ⟨.seq (w := 724) (.inl rfl) (.cons (w := 100) (v := 622) (tr_str kw_call) (.cons (w := 105) (v := 515) t1 (.cons (w := 100) (v := 413) (tr_str hs) (.cons (w := 411) (v := 0) t2 .nil (by omega)) (by omega)) (by omega)) (by omega)) (by omega), ?_⟩
  refine pl_tup fun d hd => ?_
  rcases List.mem_cons.mp hd with rfl | hd
  · exact pl_strs kw_call _
  rcases List.mem_cons.mp hd with rfl | hd
  · refine pl_tup fun d hd => ?_
    rcases List.mem_cons.mp hd with rfl | hd
    · exact pl_ints h1 _
    · cases hd
  rcases List.mem_cons.mp hd with rfl | hd
  · exact pl_strs hs _
  rcases List.mem_cons.mp hd with rfl | hd
  · exact pl_tup fun d hd => pl_ints (hb d hd) _
  · cases hd
theorem kw_fill : LfS "fill" := strB_ok (by decide +kernel)
theorem kw_put : LfS "put" := strB_ok (by decide +kernel)
theorem kw_write : LfS "write" := strB_ok (by decide +kernel)
theorem kw_add : LfS "add" := strB_ok (by decide +kernel)
theorem ent_fill {b : List Dv} (hb : ∀ d ∈ b, IntS d) (hl : b.length ≤ 4) : Ent (.tup [.str "call", .tup [], .str "fill", .tup b]) := by
  have t1 : Tr 1 105 (.tup []) := .seq (w := 0) (.inl rfl) .nil (by omega)
  have t2 : Tr 1 411 (.tup b) := .seq (.inl rfl) (ints_tr hb) (by omega)
  refine ⟨.seq (w := 724) (.inl rfl) (.cons (w := 100) (v := 622) (tr_str kw_call) (.cons (w := 105) (v := 515) t1 (.cons (w := 100) (v := 413) (tr_str kw_fill) (.cons (w := 411) (v := 0) t2 .nil (by omega)) (by omega)) (by omega)) (by omega)) (by omega), ?_⟩
  refine pl_tup fun d hd => ?_
  rcases List.mem_cons.mp hd with rfl | hd
  · exact pl_strs kw_call _
  rcases List.mem_cons.mp hd with rfl | hd
  · exact pl_tup fun d hd => nomatch hd
  rcases List.mem_cons.mp hd with rfl | hd
  · exact pl_strs kw_fill _
  rcases List.mem_cons.mp hd with rfl | hd
  · exact pl_tup fun d hd => pl_ints (hb d hd) _
  · cases hd
theorem ent_ints {k : Str} {b : List Dv} (hk : LfS k) (hb : ∀ d ∈ b, IntS d) (hl : b.length ≤ 5) : Ent (.tup (.str k :: b)) := by
  refine ⟨.seq (w := 612) (.inl rfl) (.cons (w := 100) (v := 510) (tr_str hk) ((ints_tr hb).mono (by omega) (by omega)) (by omega)) (by omega), ?_⟩
  refine pl_tup fun d hd => ?_
  rcases List.mem_cons.mp hd with rfl | hd
  · exact pl_strs hk _
  · exact pl_ints (hb d hd) _
theorem ent_get {s : Ws} {b : List Dv} (hM : mu s ≤ 4096) (hb : ∀ d ∈ b, IntS d) (hl : b.length ≤ 4) : Ent (getD s b) := ent_ints kw_get (fun d hd => by
  rcases List.mem_cons.mp hd with rfl | hd
  · exact num_int hM
  · exact hb d hd) (by simp only [List.length_cons]; omega)
theorem ent_lf {s : Ws} {w : Bool} {x : Str} (hM : mu s ≤ 4096) (hx : LfS x) : Ent (lfD w x s) := by
  have h1 := num_int hM
  have hk : LfS (if w = true then "word" else "read") := by cases w <;> simp <;> first | exact kw_read | exact kw_word
  refine ⟨.seq (w := 306) (.inl rfl) (.cons (w := 100) (v := 204) (tr_str hk) (.cons (w := 100) (v := 102) (.leaf (leaf_int h1) (Nat.le_refl _)) (.cons (w := 100) (v := 0) (tr_str hx) .nil (by omega)) (by omega)) (by omega)) (by omega), ?_⟩
  refine pl_tup fun d hd => ?_
  rcases List.mem_cons.mp hd with rfl | hd
  · exact pl_strs hk _
  rcases List.mem_cons.mp hd with rfl | hd
  · exact pl_ints h1 _
  rcases List.mem_cons.mp hd with rfl | hd
  · exact pl_strs hx _
  · cases hd
theorem ent_write {v : Dv} {x : Str} (h1 : IntS v) (hx : LfS x) : Ent (.tup [.str "write", .str x, v]) := by
  refine ⟨.seq (w := 306) (.inl rfl) (.cons (w := 100) (v := 204) (tr_str kw_write) (.cons (w := 100) (v := 102) (tr_str hx) (.cons (w := 100) (v := 0) (.leaf (leaf_int h1) (Nat.le_refl _)) .nil (by omega)) (by omega)) (by omega)) (by omega), ?_⟩
  refine pl_tup fun d hd => ?_
  rcases List.mem_cons.mp hd with rfl | hd
  · exact pl_strs kw_write _
  rcases List.mem_cons.mp hd with rfl | hd
  · exact pl_strs hx _
  rcases List.mem_cons.mp hd with rfl | hd
  · exact pl_ints h1 _
  · cases hd
def GW (s : Ws) : Prop := ∀ d ∈ s.2, Ent d
theorem fold_ent {W : Ex → Ws → Ws} {P : List Ex} {z : Nat} (hl : ∀ e ∈ P, ∀ M, mu (W e M) ≤ mu M + z) (hW : ∀ e ∈ P, ∀ M, mu M + z ≤ 4096 → GW M → GW (W e M)) :
    ∀ (is : List Nat) (st : Ws × List Dv), mu st.1 + is.length * z ≤ 4096 → GW st.1 → (∀ d ∈ st.2, IntS d) → GW (is.foldl (wst W P) st).1 ∧ ∀ d ∈ (is.foldl (wst W P) st).2, IntS d
  | [], st, _, h1, h2 => ⟨h1, h2⟩
  | i :: is, st, hM, h1, h2 => by
    rw [List.length_cons, Nat.succ_mul] at hM
    rw [List.foldl_cons]
    cases h : P[i]? with
    | none =>
      have e : wst W P st i = st := by unfold wst; rw [h]
      rw [e]
      exact fold_ent hl hW is st (by omega) h1 h2
    | some e =>
      have hm := List.mem_of_getElem? h
      have l1 := hl e hm st.1
      rw [wst_some h]
      refine fold_ent hl hW is _ (by simp only; omega) (hW e hm st.1 (by omega) h1) fun d hd => ?_
      rcases List.mem_or_eq_of_mem_set hd with hd | rfl
      · exact h2 d hd
      · exact box_int (by omega)
theorem wall_ent {W : Ex → Ws → Ws} {r : Bool} {P : List Ex} {z : Nat} (hP : P.length ≤ 4) (hl : ∀ e ∈ P, ∀ M, mu (W e M) ≤ mu M + z) (hW : ∀ e ∈ P, ∀ M, mu M + z ≤ 4096 → GW M → GW (W e M)) (M : Ws) (hM : mu M + 4 * z ≤ 4096) (h : GW M) : GW (wall W r P M).1 ∧ ∀ d ∈ (wall W r P M).2, IntS d := by
  have h2 : P.length * z ≤ 4 * z := Nat.mul_le_mul_right _ hP
  refine fold_ent hl hW _ _ (by rw [ord_len]; simp only; omega) h fun d hd => ?_
  have := List.eq_of_mem_replicate hd
  exact ⟨0, by omega, this⟩
theorem gw_psh {s : Ws} {d : Dv} (h : GW s) (hd : Ent d) : GW (psh s d) := by
  intro x hx
  rcases List.mem_append.mp hx with hx | hx
  · exact h x hx
  · have := List.mem_singleton.mp hx
    rw [this]; exact hd
theorem gw_ap1 {s : Ws} {d : Dv} (h : GW s) (hd : Ent d) : GW (ap1 s d) := by
  intro x hx
  rcases List.mem_append.mp hx with hx | hx
  · exact h x hx
  · have := List.mem_singleton.mp hx
    rw [this]; exact hd
def SI : Spot → Prop
  | .nm x => LfS x
  | .at _ b => ∀ d ∈ b, IntS d
theorem look_ent {q : Spot} {s : Ws} (h1 : SI q) (h2 : SpOk q) (hM : mu s ≤ 4096) (h : GW s) : GW (lookW q s) := by
  cases q with
  | nm x => exact gw_psh h (ent_lf hM h1)
  | «at» sl b =>
    cases sl with
    | true => exact gw_psh h (ent_call hM kw_cut h1 (by have : b.length = 3 := h2; omega))
    | false => exact gw_psh h (ent_get hM h1 (by have : b.length = 2 := h2; omega))
theorem app_ints {b : List Dv} {v : Dv} (h1 : ∀ d ∈ b, IntS d) (h2 : IntS v) : ∀ d ∈ b ++ [v], IntS d := by
  intro d hd
  rcases List.mem_append.mp hd with hd | hd
  · exact h1 d hd
  · have := List.mem_singleton.mp hd
    rw [this]; exact h2
theorem store_ent {q : Spot} {v : Dv} {s : Ws} (h1 : SI q) (h2 : SpOk q) (hv : IntS v) (h : GW s) : GW (storeW q v s) := by
  cases q with
  | nm x => exact gw_ap1 h (ent_write hv h1)
  | «at» sl b =>
    cases sl with
    | true => exact gw_ap1 h (ent_fill (app_ints h1 hv) (by have : b.length = 3 := h2; simp; omega))
    | false => exact gw_ap1 h (ent_ints kw_put (app_ints h1 hv) (by have : b.length = 2 := h2; simp; omega))
theorem wk_ent (r : Bool) : ∀ (n : Nat) (e : Ex) (M : Ws), okE e → mu M + Zn n ≤ 4096 → GW M → GW (wk r n e M)
  | 0, e, M, _, _, h => h
  | n + 1, .lf w x, M, ho, hM, h => gw_psh h (ent_lf (by omega) ho.1)
  | n + 1, .call s l, M, ho, hM, h => by
    have hz : Zn (n + 1) = 4 * Zn n + 2 := rfl
    rw [hz] at hM
    have hk : ∀ e ∈ l, ∀ M, mu (wk r n e M) ≤ mu M + Zn n := fun e he M => wk_len r n e M (ok_mem ho.2.2 he)
    obtain ⟨w1, w2⟩ := wall_ent (r := r) ho.2.1 hk (fun e he M => wk_ent r n e M (ok_mem ho.2.2 he)) M (by omega) h
    have hl := wall_len (W := wk r n) (r := r) ho.2.1 hk M
    have h2 := wall_len2 (W := wk r n) (r := r) (P := l) M
    have h3 := ho.2.1
    exact gw_psh w1 (ent_call (by omega) ho.1.1 w2 (by omega))
  | n + 1, .nd sl l, M, ho, hM, h => by
    have hz : Zn (n + 1) = 4 * Zn n + 2 := rfl
    rw [hz] at hM
    have hP : l.length ≤ 4 := (ok_pt (e := .nd sl l) ho).1
    have hk : ∀ e ∈ l, ∀ M, mu (wk r n e M) ≤ mu M + Zn n := fun e he M => wk_len r n e M (ok_mem ho.2 he)
    obtain ⟨w1, w2⟩ := wall_ent (r := r) hP hk (fun e he M => wk_ent r n e M (ok_mem ho.2 he)) M (by omega) h
    have hl := wall_len (W := wk r n) (r := r) hP hk M
    have h2 := wall_len2 (W := wk r n) (r := r) (P := l) M
    exact look_ent w2 (h2.trans ho.1) (by omega) w1
theorem find_ent {r : Bool} {p : Ex} {s : Ws} (h : okE p) (hpl : isPl p = true) (hM : mu s + 168 ≤ 4096) (hg : GW s) : GW (findW r 3 p s).1 ∧ SI (findW r 3 p s).2 := by
  have z3 := zn3
  cases p with
  | lf w x => exact ⟨hg, h.1⟩
  | call g l => cases hpl
  | nd sl l =>
    have hP : l.length ≤ 4 := (ok_pt (e := .nd sl l) h).1
    exact wall_ent (r := r) hP (fun e he M => wk_len r 3 e M (ok_mem h.2 he)) (fun e he M => wk_ent r 3 e M (ok_mem h.2 he)) s (by omega) hg
theorem set_ent {sl r : Bool} {p e : Ex} {s : Ws} (hp : okE p) (hpl : isPl p = true) (he : okE e) (hM : mu s + 900 ≤ 4096) (hg : GW s) : GW (setW sl r p e s) := by
  have z3 := zn3
  have z5 := zn5
  unfold setW
  cases sl with
  | true =>
    have h1 := wk_len r 5 e s he
    have h2 := find_len r 3 p (wk r 5 e s) hp
    have g1 := wk_ent r 5 e s he (by omega) hg
    obtain ⟨g2, g3⟩ := find_ent (r := r) hp hpl (by omega) g1
    rw [if_pos rfl]
    exact store_ent g3 (find_ok' hp) (box_int (by omega)) g2
  | false =>
    have h2 := find_len r 3 p s hp
    have h1 := wk_len r 5 e (findW r 3 p s).1 he
    obtain ⟨g2, g3⟩ := find_ent (r := r) hp hpl (by omega) hg
    have g1 := wk_ent r 5 e (findW r 3 p s).1 he (by omega) g2
    rw [if_neg Bool.false_ne_true]
    exact store_ent g3 (find_ok' hp) (box_int (by omega)) g1
theorem cadd_ent {s : Ws} {o v : Dv} (ho : IntS o) (hv : IntS v) (hM : mu s ≤ 4096) (hg : GW s) : GW (cadd s o v) := gw_psh hg (ent_call hM kw_add (fun d hd => by
  rcases List.mem_cons.mp hd with rfl | hd
  · exact ho
  · have := List.mem_singleton.mp hd
    rw [this]; exact hv) (by simp))
theorem add_ent {ad : T4} {sl r : Bool} {p e : Ex} {s : Ws} (hp : okE p) (hpl : isPl p = true) (he : okE e) (hM : mu s + 900 ≤ 4096) (hg : GW s) : GW (addW ad sl r p e s) := by
  have z3 := zn3
  have z5 := zn5
  cases ad with
  | a =>
    have l2 := find_len r 3 p s hp
    have l3 := mu_look (findW r 3 p s).2 (findW r 3 p s).1
    have l1 := wk_len r 5 e (lookW (findW r 3 p s).2 (findW r 3 p s).1) he
    obtain ⟨g2, g3⟩ := find_ent (r := r) hp hpl (by omega) hg
    have g4 := look_ent g3 (find_ok' hp) (by omega) g2
    have g5 := wk_ent r 5 e _ he (by omega) g4
    exact store_ent g3 (find_ok' hp) (box_int (by rw [mu_cadd]; omega)) (cadd_ent (box_int (by omega)) (box_int (by omega)) (by omega) g5)
  | b =>
    have l2 := find_len r 3 p s hp
    have l1 := wk_len r 5 e (findW r 3 p s).1 he
    have l3 := mu_look (findW r 3 p s).2 (wk r 5 e (findW r 3 p s).1)
    obtain ⟨g2, g3⟩ := find_ent (r := r) hp hpl (by omega) hg
    have g5 := wk_ent r 5 e _ he (by omega) g2
    have g4 := look_ent g3 (find_ok' hp) (by omega) g5
    exact store_ent g3 (find_ok' hp) (box_int (by rw [mu_cadd]; omega)) (cadd_ent (box_int (by omega)) (box_int (by omega)) (by omega) g4)
  | c =>
    have l1 := wk_len r 5 e s he
    have l2 := find_len r 3 p (wk r 5 e s) hp
    have l3 := mu_look (findW r 3 p (wk r 5 e s)).2 (findW r 3 p (wk r 5 e s)).1
    have g5 := wk_ent r 5 e _ he (by omega) hg
    obtain ⟨g2, g3⟩ := find_ent (r := r) hp hpl (by omega) g5
    have g4 := look_ent g3 (find_ok' hp) (by omega) g2
    exact store_ent g3 (find_ok' hp) (box_int (by rw [mu_cadd]; omega)) (cadd_ent (box_int (by omega)) (box_int (by omega)) (by omega) g4)
  | d => exact set_ent hp hpl (ok_add hp he) hM hg
theorem wks_ent (ad : T4) (sl r : Bool) : ∀ (es : List Rw) (M : Ws), RowsOk es → mu M + es.length * 900 ≤ 4096 → GW M → GW (wks ad sl r es M)
  | [], M, _, _, h => h
  | e :: es, M, ho, hM, h => by
    rw [List.length_cons, Nat.succ_mul] at hM
    have he := ho e (List.mem_cons_self ..)
    have h1 := rw_len ad sl r M he
    refine wks_ent ad sl r es _ (fun x hx => ho x (List.mem_cons_of_mem _ hx)) (by omega) ?_
    unfold rwW
    split
    · exact add_ent he.p he.pl he.e (by omega) h
    · exact set_ent he.p he.pl he.e (by omega) h
theorem ents_tr : ∀ {M : List Dv}, (∀ d ∈ M, Ent d) → TrL 2 (1002 * M.length) M
  | [], _ => .nil
  | d :: M, h => .cons (w := 1000) (v := 1002 * M.length) (h d (List.mem_cons_self ..)).1 (ents_tr fun x hx => h x (List.mem_cons_of_mem _ hx)) (by simp only [List.length_cons]; omega)
theorem out_ok (l : Lg) {es : List Rw} (h : RowsOk es) (hl : es.length ≤ 3) : (∃ x, ∀ S, reprD S [.tup (outW l es).2] = some (.str x, S)) ∧ ∀ S, eqD S (.tup (outW l es).2) (.tup (outW l es).2) = some true := by
  have m0 : mu (0, []) = 0 := rfl
  have hE := wks_ent l.a l.s l.p es (0, []) h (by rw [m0]; omega) (fun _ h => nomatch h)
  have hL := wks_len l.a l.s l.p es (0, []) h
  rw [m0] at hL
  change GW (outW l es) at hE
  change mu (outW l es) ≤ _ at hL
  have hL2 := mu2 (outW l es)
  unfold GW at hE
  generalize (outW l es).2 = M at *
  have t : Tr 3 5000000 (.tup M) := .seq (.inl rfl) (ents_tr hE) (by omega)
  obtain ⟨x, hx⟩ := t.repr (by omega) (by omega)
  refine ⟨⟨x, hx⟩, fun S => eq_tup_same S ?_⟩
  obtain ⟨p, a, b, c⟩ := pl_tup (n := 3) fun d hd => (hE d hd).2
  exact ⟨p, a, b, by omega⟩
end DL
namespace DL
open PySem L2
def GdP (k : Nat) (d : Dv) : Prop := ∃ e, d = toD false e ∧ htE e ≤ k ∧ szE e ≤ Zk k ∧ okE e ∧ isPl e = true
theorem gdp_nd {k : Nat} (sl : Bool) {l : List Dv} (h5 : l.length = (if sl then 3 else 2)) (hl : ∀ x ∈ l, Gd k x) : GdP (k + 1) (.tup (.str (ndS sl) :: l)) := by
  obtain ⟨es, g1, g2, g3, g5, g4⟩ := gd_list l hl
  have h4 : l.length ≤ 4 := by rw [h5]; cases sl <;> simp
  have hm : l.length * Zk k ≤ 4 * Zk k := Nat.mul_le_mul_right _ h4
  refine ⟨.nd sl es, by rw [g1]; rfl, Nat.succ_le_succ g2, ?_, ⟨by rw [g5, h5], g4⟩, rfl⟩
  show szL es + 1 ≤ 4 * Zk k + 1
  omega
theorem gdp_item {k : Nat} {x y : Dv} (hx : Gd k x) (hy : Gd k y) : GdP (k + 1) (.tup [.str "item", x, y]) := gdp_nd false (l := [x, y]) (by simp) (by simp [hx, hy])
theorem gdp_slice {k : Nat} {x y z : Dv} (hx : Gd k x) (hy : Gd k y) (hz : Gd k z) : GdP (k + 1) (.tup [.str "slice", x, y, z]) := gdp_nd true (l := [x, y, z]) (by simp) (by simp [hx, hy, hz])
theorem Zk_1 (k : Nat) : 1 ≤ Zk k := by cases k with
  | zero => exact Nat.le_refl _
  | succ k => show 1 ≤ 4 * Zk k + 1; omega
theorem gdp_name {k : Nat} {d : Dv} (h : ∃ x, d = .str x ∧ LfS x ∧ nmP x = true) : GdP k (.tup [.str "name", d]) := by
  obtain ⟨x, rfl, h⟩ := h
  exact ⟨.lf false x, rfl, Nat.zero_le _, Zk_1 k, h, rfl⟩
def PlF (f b r k : Nat) : Prop := ∀ S (t : Int), BR S b r → ∃ d S', calls f .l_place S [.hdl b, .hdl r, .int (k : Int), .int t] = .ok d S' ∧ BR S' b r ∧ GdP k d
def pI (c : Fn → DF) : DS := (sSeq (sAugI subI (eVar 1) (eC (.int 1)) (eVar 3)) (sSeq (sAsg 5 (eCall (c .l_value) (aCons (eVar 0) (aCons (eVar 1) (aCons (eBin (pu2 subD) (eVar 2) (eC (.int 1))) aNil))))) (sRet (eTup (aCons (eC (.str "item")) (aCons (eVar 5) (aCons (eCall (c .l_value) (aCons (eVar 0) (aCons (eVar 1) (aCons (eBin (pu2 subD) (eVar 2) (eC (.int 1))) aNil)))) aNil)))))))
def pS' (c : Fn → DF) : DS := (sSeq (sAugI subI (eVar 1) (eC (.int 1)) (eVar 3)) (sSeq (sAugI subI (eVar 1) (eC (.int 0)) (eVar 3)) (sSeq (sAsg 5 (eCall (c .l_operand) (aCons (eVar 0) (aCons (eVar 1) aNil)))) (sSeq (sAsg 6 (eCall (c .l_value) (aCons (eVar 0) (aCons (eVar 1) (aCons (eBin (pu2 subD) (eVar 2) (eC (.int 1))) aNil))))) (sRet (eTup (aCons (eC (.str "slice")) (aCons (eVar 5) (aCons (eVar 6) (aCons (eCall (c .l_operand) (aCons (eVar 0) (aCons (eVar 1) aNil))) aNil))))))))))
def pN (c : Fn → DF) : DS := (sRet (eTup (aCons (eC (.str "name")) (aCons (eCall (c .l_one) (aCons (eVar 0) (aCons (eBin ixD (eVar 1) (eC (.int 2))) aNil))) aNil))))
theorem fb_place_eq (c : Fn → DF) : fb_l_place c = (sSeq (sAsg 4 (eCall (c .l_take) (aCons (eVar 0) (aCons (eC (.int 6)) aNil)))) (sSeq (sIf (tAnd' (tVal (eBin (pu2 ltD) (eVar 4) (eC (.int 4)))) (tVal (eBin (pu2 geD) (eBin ixD (eVar 1) (eC (.int 1))) (eVar 3)))) (pI c) sNil) (sSeq (sIf (tAnd' (tVal (eBin eqE (eVar 4) (eC (.int 4)))) (tAnd' (tVal (eBin (pu2 geD) (eBin ixD (eVar 1) (eC (.int 1))) (eVar 3))) (tVal (eBin (pu2 geD) (eBin ixD (eVar 1) (eC (.int 0))) (eVar 3))))) (pS' c) sNil) (pN c)))) := rfl
abbrev pE (b r : Nat) (k : Nat) (t n : Int) : Env := [.va (.hdl b), .va (.hdl r), .va (.int (k : Int)), .va (.int t), .va (.int n), .no, .no]
theorem pI_ok {f b r k : Nat} {t n : Int} (V : ValF f b r k (k : Int)) {S : Sto} (h1 : BR S b r) : ∃ d S', pI (calls f) (pE b r (k + 1) t n) S = .rt d S' ∧ BR S' b r ∧ GdP (k + 1) d := by
  obtain ⟨q, hq, c, w, nl, sl, wl, rfl, m1, m2, m3⟩ := h1.room
  have hr1 : RoomOk (roomOb c (w - t) nl sl wl) := ⟨_, _, _, _, _, rfl, m1, m2, m3⟩
  obtain ⟨x, S3, e3, h3, gx⟩ := V _ (h1.setR hr1)
  obtain ⟨y, S4, e4, h4, gy⟩ := V _ h3
  have hk : (((k + 1 : Nat) : Int) - 1) = (k : Int) := by omega
  refine ⟨.tup [.str "item", x, y], S4, ?_, h4, gdp_item gx gy⟩
  unfold roomOb at *
  unfold pE
  generalize ((k + 1 : Nat) : Int) = kk at *
  generalize (k : Int) = k0 at *
  simp [pI, hq, ix51, hk, e3, e4, -List.set_set]
theorem pS_ok {f b r k : Nat} {t n : Int} (O : OpeF f b r) (V : ValF f b r k (k : Int)) {S : Sto} (h1 : BR S b r) : ∃ d S', pS' (calls f) (pE b r (k + 1) t n) S = .rt d S' ∧ BR S' b r ∧ GdP (k + 1) d := by
  obtain ⟨q, hq, c, w, nl, sl, wl, rfl, m1, m2, m3⟩ := h1.room
  have hset : ∀ x : Ob, (S.set r x)[r]? = some x := fun x => by rw [List.getElem?_set, if_pos rfl, if_pos (List.getElem?_eq_some_iff.mp hq).1]
  have hr1 : RoomOk (roomOb c (w - t) nl sl wl) := ⟨_, _, _, _, _, rfl, m1, m2, m3⟩
  have hr2 : RoomOk (roomOb (c - t) (w - t) nl sl wl) := ⟨_, _, _, _, _, rfl, m1, m2, m3⟩
  obtain ⟨x, S3, e3, h3, gx⟩ := O _ ((h1.setR hr1).setR hr2)
  obtain ⟨y, S4, e4, h4, gy⟩ := V _ h3
  obtain ⟨u, S5, e5, h5, gu⟩ := O _ h4
  have hk : (((k + 1 : Nat) : Int) - 1) = (k : Int) := by omega
  refine ⟨.tup [.str "slice", x, y, u], S5, ?_, h5, gdp_slice (gx.zero k) gy (gu.zero k)⟩
  unfold roomOb at *
  unfold pE
  generalize ((k + 1 : Nat) : Int) = kk at *
  generalize (k : Int) = k0 at *
  simp [pS', hq, hset, ix50, ix51, hk, e3, e4, e5, -List.set_set]
theorem pN_ok {f b r k : Nat} {t n : Int} (N : OneF f b) {S : Sto} (h1 : BR S b r) : ∃ d S', pN (calls f) (pE b r k t n) S = .rt d S' ∧ BR S' b r ∧ GdP k d := by
  obtain ⟨q, hq, c, w, nl, sl, wl, rfl, m1, m2, m3⟩ := h1.room
  obtain ⟨d, o2, e2, hd, ho2⟩ := N _ nl h1.bag m1.1 (by have := m1.2.1; omega)
  refine ⟨_, _, ?_, h1.setB ho2, gdp_name (m1.2.2 d hd)⟩
  unfold roomOb at *
  unfold pE
  generalize (k : Int) = k0 at *
  simp [pN, hq, at2, e2]
theorem place_l {f b r k : Nat} (hf : k + 5 ≤ f) : PlF (f + 1) b r (k + 1) := by
  intro S t h
  obtain ⟨n, o, e, r0, r1, ho⟩ := takeF' b (by omega) S h.bag 6 (by decide) (by decide) (f := f)
  have h1 := h.setB ho
  obtain ⟨id, iS, ie, iB, iG⟩ := pI_ok (t := t) (n := n) (valF (b := b) (r := r) k f (by omega)) h1
  obtain ⟨sd, sS, se, sB, sG⟩ := pS_ok (t := t) (n := n) (opeF (by omega)) (valF (b := b) (r := r) k f (by omega)) h1
  obtain ⟨nd, nS, ne, nB, nG⟩ := pN_ok (r := r) (k := k + 1) (t := t) (n := n) (oneF (by omega) (f := f)) h1
  obtain ⟨q, hq, c, w, nl, sl, wl, rfl, m1, m2, m3⟩ := h1.room
  unfold roomOb at hq
  generalize S.set b o = S1 at *
  unfold pE at *
  rw [ev_l_place, fb_place_eq]
  generalize pI (calls f) = PI at *
  generalize pS' (calls f) = PS at *
  generalize pN (calls f) = PN at *
  generalize ((k + 1 : Nat) : Int) = kk at *
  by_cases hA : n < 4
  · by_cases hw : t ≤ w
    · exact ⟨id, iS, by simp [e, hA, hq, at1, hw, ie], iB, iG⟩
    · have h4 : ¬ n = 4 := by omega
      exact ⟨nd, nS, by simp [e, hA, hq, at1, hw, h4, ne], nB, nG⟩
  · by_cases h4 : n = 4
    · subst h4
      by_cases hw : t ≤ w
      · by_cases hc : t ≤ c
        · exact ⟨sd, sS, by simp [e, hq, at0, at1, hw, hc, se], sB, sG⟩
        · exact ⟨nd, nS, by simp [e, hq, at0, at1, hw, hc, ne], nB, nG⟩
      · exact ⟨nd, nS, by simp [e, hq, at1, hw, ne], nB, nG⟩
    · exact ⟨nd, nS, by simp [e, hA, h4, ne], nB, nG⟩
def kndL : List Dv := [.str "set", .str "add", .str "add"]
def RwD (d : Dv) : Prop := ∃ w, d = rowD w ∧ RowOk w
theorem zk3 {k : Nat} (hk : k ≤ 3) : Zk k ≤ 1365 := by
  rcases k with _ | _ | _ | _ | k
  · decide
  · decide
  · decide
  · decide
  · omega
theorem row_of {k : Nat} (hk : k ≤ 3) (a : Bool) {x y : Dv} (hx : GdP k x) (hy : Gd k y) : RwD (.tup [.str (rwS a), x, y]) := by
  obtain ⟨p, rfl, p1, p2, p3, p4⟩ := hx
  obtain ⟨e, rfl, e1, e2, e3⟩ := hy
  have := zk3 hk
  exact ⟨⟨a, p, e⟩, rfl, p3, p4, (by omega : htE p ≤ 3), (by omega : szE p ≤ 1365), e3, (by omega : htE e ≤ 3), (by omega : szE e ≤ 1365)⟩
def rA (c : Fn → DF) : DS := (sSeq (sAugI subI (eVar 1) (eC (.int 0)) (eC (.int 1))) (sSeq (sAsg 5 (eCall (c .l_place) (aCons (eVar 0) (aCons (eVar 1) (aCons (eVar 2) (aCons (eC (.int 2)) aNil)))))) (sRet (eTup (aCons (eC (.str "add")) (aCons (eVar 5) (aCons (eCall (c .l_value) (aCons (eVar 0) (aCons (eVar 1) (aCons (eVar 2) aNil)))) aNil)))))))
def rS (c : Fn → DF) : DS := (sSeq (sAsg 5 (eCall (c .l_place) (aCons (eVar 0) (aCons (eVar 1) (aCons (eVar 2) (aCons (eC (.int 1)) aNil)))))) (sRet (eTup (aCons (eC (.str "set")) (aCons (eVar 5) (aCons (eCall (c .l_value) (aCons (eVar 0) (aCons (eVar 1) (aCons (eVar 2) aNil)))) aNil))))))
def rD (c : Fn → DF) : DS := (sSeq (sIf (tVal (eBin eqE (eVar 4) (eC (.str "many")))) sNever sNil) (sSeq (sIf (tVal (eBin eqE (eVar 4) (eC (.str "do")))) (sRet (eTup (aCons (eC (.str "do")) (aCons (eCall (c .l_value) (aCons (eVar 0) (aCons (eVar 1) (aCons (eVar 2) aNil)))) aNil)))) sNil) (rS c)))
def rX (c : Fn → DF) : DS := (sSeq (sAsg 5 (eCall (c .l_place) (aCons (eVar 0) (aCons (eVar 1) (aCons (eVar 2) (aCons (eC (.int 2)) aNil)))))) (sRet (eTup (aCons (eC (.str "exchange")) (aCons (eVar 5) (aCons (eCall (c .l_place) (aCons (eVar 0) (aCons (eVar 1) (aCons (eVar 2) (aCons (eC (.int 2)) aNil))))) aNil))))))
def rC (c : Fn → DF) : DS := (sSeq (sAsg 6 (eFrz (fLc (iRng1' (aCons (eBin addD (eC (.int 2)) (eCall (c .l_take) (aCons (eVar 0) (aCons (eC (.int 3)) aNil)))) aNil)) (gN 7) tTrue (eCall (c .l_place) (aCons (eVar 0) (aCons (eVar 1) (aCons (eVar 2) (aCons (eC (.int 1)) aNil))))) [7]))) (sRet (eTup (aCons (eC (.str "chain")) (aCons (eCB tupleD (aCons (eVar 6) aNil)) (aCons (eCall (c .l_value) (aCons (eVar 0) (aCons (eVar 1) (aCons (eVar 2) aNil)))) aNil))))))
theorem fb_row_eq (c : Fn → DF) : fb_l_row c = (sSeq (sAsg 4 (eCall (c .l_one) (aCons (eVar 0) (aCons (eVar 3) aNil)))) (sSeq (sIf (tAnd' (tVal (eBin eqE (eVar 4) (eC (.str "add")))) (tVal (eBin (pu2 gtD) (eBin ixD (eVar 1) (eC (.int 0))) (eC (.int 0))))) (rA c) sNil) (sSeq (sIf (tVal (eBin eqE (eVar 4) (eC (.str "exchange")))) (rX c) sNil) (sSeq (sIf (tVal (eBin eqE (eVar 4) (eC (.str "chain")))) (rC c) sNil) (rD c))))) := rfl
abbrev rE (b r k : Nat) (ks : Dv) (a : Bool) : Env := [.va (.hdl b), .va (.hdl r), .va (.int (k : Int)), .va ks, .va (.str (rwS a)), .no, .no, .no]
theorem rA_ok {f b r k : Nat} {ks : Dv} {a : Bool} (hk : k ≤ 3) (P : PlF f b r k) (V : ValF f b r k (k : Int)) {S : Sto} (h1 : BR S b r) : ∃ d S', rA (calls f) (rE b r k ks a) S = .rt d S' ∧ BR S' b r ∧ RwD d := by
  obtain ⟨q, hq, c, w, nl, sl, wl, rfl, m1, m2, m3⟩ := h1.room
  have hr1 : RoomOk (roomOb (c - 1) w nl sl wl) := ⟨_, _, _, _, _, rfl, m1, m2, m3⟩
  obtain ⟨x, S3, e3, h3, gx⟩ := P _ 2 (h1.setR hr1)
  obtain ⟨y, S4, e4, h4, gy⟩ := V _ h3
  refine ⟨.tup [.str "add", x, y], S4, ?_, h4, row_of hk true gx gy⟩
  unfold roomOb at *
  unfold rE
  generalize (k : Int) = k0 at *
  simp [rA, hq, ix50, e3, e4, -List.set_set]
theorem rS_ok {f b r k : Nat} {ks : Dv} {a : Bool} (hk : k ≤ 3) (P : PlF f b r k) (V : ValF f b r k (k : Int)) {S : Sto} (h1 : BR S b r) : ∃ d S', rS (calls f) (rE b r k ks a) S = .rt d S' ∧ BR S' b r ∧ RwD d := by
  obtain ⟨x, S3, e3, h3, gx⟩ := P _ 1 h1
  obtain ⟨y, S4, e4, h4, gy⟩ := V _ h3
  refine ⟨.tup [.str "set", x, y], S4, ?_, h4, row_of hk false gx gy⟩
  unfold rE
  generalize (k : Int) = k0 at *
  simp [rS, e3, e4]
theorem rw_x (a : Bool) : ¬ (rwS a = "exchange") := by cases a <;> decide +kernel
theorem rw_c (a : Bool) : ¬ (rwS a = "chain") := by cases a <;> decide +kernel
theorem rw_m (a : Bool) : ¬ (rwS a = "many") := by cases a <;> decide +kernel
theorem rw_a (a : Bool) : rwS a = "add" ↔ a = true := by cases a <;> decide +kernel
theorem knd_mem {d : Dv} (h : d ∈ kndL) : ∃ a, d = .str (rwS a) := by
  simp only [kndL, List.mem_cons, List.not_mem_nil, or_false] at h
  rcases h with rfl | rfl | rfl
  · exact ⟨false, rfl⟩
  · exact ⟨true, rfl⟩
  · exact ⟨true, rfl⟩
def RowF (f b r k : Nat) : Prop := ∀ S, BR S b r → ∃ d S', calls f .l_row S [.hdl b, .hdl r, .int (k : Int), .lst kndL] = .ok d S' ∧ BR S' b r ∧ RwD d
theorem rowF {f b r k : Nat} (hk : k + 1 ≤ 3) (hf : k + 7 ≤ f) : RowF (f + 1) b r (k + 1) := by
  intro S h
  obtain ⟨d, o, e, hd, ho⟩ := oneF (by omega) (f := f) S kndL h.bag (by simp [kndL]) (by simp [kndL])
  obtain ⟨a, rfl⟩ := knd_mem hd
  have h1 := h.setB ho
  obtain ⟨g, rfl⟩ : ∃ g, f = g + 1 := ⟨f - 1, by omega⟩
  have P : PlF (g + 1) b r (k + 1) := place_l (by omega)
  have V := valF (b := b) (r := r) (k + 1) (g + 1) (by omega)
  obtain ⟨ad, aS', ae, aB, aG⟩ := rA_ok (ks := .lst kndL) (a := a) hk P V h1
  obtain ⟨sd, sS', se, sB, sG⟩ := rS_ok (ks := .lst kndL) (a := a) hk P V h1
  obtain ⟨q, hq, c, w, nl, sl, wl, rfl, m1, m2, m3⟩ := h1.room
  unfold roomOb at hq
  generalize S.set b o = S1 at *
  unfold rE at *
  rw [ev_l_row, fb_row_eq]
  unfold rD
  generalize rA (calls (g + 1)) = RA at *
  generalize rS (calls (g + 1)) = RS at *
  generalize rX (calls (g + 1)) = RX at *
  generalize rC (calls (g + 1)) = RC at *
  generalize ((k + 1 : Nat) : Int) = kk at *
  generalize kndL = kn at *
  have n1 := rw_x a
  have n2 := rw_c a
  have n3 := rw_m a
  have n4 := rw_do a
  by_cases ha : a = true
  · have n5 : rwS a = "add" := (rw_a a).mpr ha
    by_cases hc : 0 < c
    · exact ⟨ad, aS', by simp [e, n5, hq, at0, hc] at ae ⊢; simp [ae], aB, aG⟩
    · refine ⟨sd, sS', ?_, sB, sG⟩
      rw [n5] at se e n1 n2 n3 n4
      simp [e, hq, at0, hc, n1, n2, n3, n4, se]
  · have n5 : ¬ rwS a = "add" := fun z => ha ((rw_a a).mp z)
    exact ⟨sd, sS', by simp [e, n5, n1, n2, n3, n4, se], sB, sG⟩
theorem lc_rows {f b r k : Nat} (R : RowF f b r k) (s2 : Sl) : ∀ (l : List Dv) (S : Sto), BR S b r → ∃ es S', lcR (gN 5) tTrue (eCall (calls f .l_row) (aCons (eVar 0) (aCons (eVar 1) (aCons (eVar 3) (aCons (eVar 4) aNil))))) [.va (.hdl b), .va (.hdl r), s2, .va (.int (k : Int)), .va (.lst kndL), .no] l S = .ok (es.map rowD) S' ∧ BR S' b r ∧ es.length = l.length ∧ RowsOk es
  | [], S, h => ⟨[], S, rfl, h, rfl, fun _ h => nomatch h⟩
  | x :: l, S, h => by
    obtain ⟨d, S1, e1, h1, w, rfl, hw⟩ := R S h
    obtain ⟨es, S2, e3, h3, hl, hr⟩ := lc_rows R s2 l S1 h1
    refine ⟨w :: es, S2, ?_, h3, by simp [hl], fun y hy => ?_⟩
    · refine lcR_t (e1 := [.va (.hdl b), .va (.hdl r), s2, .va (.int (k : Int)), .va (.lst kndL), .va x]) (S1 := S) (S2 := S1) rfl rfl ?_ e3
      generalize rowD w = q at *
      generalize (k : Int) = k0 at *
      generalize kndL = kn at *
      simp [e1]
    · rcases List.mem_cons.mp hy with rfl | hy
      · exact hw
      · exact hr y hy
theorem rows_shape (Q : Env → Sto → Res (List Dv)) (e : Env) (S S' : Sto) (ds : List Dv) (h : Q e S = .ok ds S') : kRun (sRet (eFrz Q) e S) = .ok (.lst ds) S' := by simp [h]
theorem rows_l {f b r k n : Nat} (R : RowF f b r k) (hn : n ≤ 3) {S : Sto} (h : BR S b r) : ∃ es S', calls (f + 1) .l_rows S [.hdl b, .hdl r, .int (n : Int), .int (k : Int), .lst kndL] = .ok (.lst (es.map rowD)) S' ∧ BR S' b r ∧ es.length ≤ 3 ∧ RowsOk es := by
  obtain ⟨es, S2, e3, h3, hl, hr⟩ := lc_rows R (.va (.int (n : Int))) (rngD 0 n) S h
  rw [rngD_len] at hl
  refine ⟨es, S2, ?_, h3, by omega, hr⟩
  have er : ∀ S, rngR1 [.int (n : Int)] S = .ok (rngD 0 n) S := fun S => by
    have := rngR1_ok S (n : Int) (by omega)
    rwa [Int.toNat_natCast] at this
  have ek := kLcEnd' (S := S2) (l := es.map rowD) (by simp; omega)
  rw [ev_l_rows, fb_l_rows]
  refine rows_shape _ _ _ _ _ ?_
  have a1 : (aCons (eVar 2) aNil) [.va (.hdl b), .va (.hdl r), .va (.int (n : Int)), .va (.int (k : Int)), .va (.lst kndL), .no] S = .ok [.int (n : Int)] S := rfl
  rw [ev_fLc, ev_rng1, a1, bnd_ok, er, bnd_ok, ev_kLc]
  show kLcEnd (lcR _ _ _ [.va (.hdl b), .va (.hdl r), .va (.int (n : Int)), .va (.int (k : Int)), .va (.lst kndL), .no] _ _) = _
  rw [e3, ek]
end DL
namespace DL
open PySem L2
def t3 (c : Fn → DF) : DS := sAsg 7 (eCall (c .l_rows) (aCons (eVar 1) (aCons (eVar 6) (aCons (eBin addD (eC (.int 1)) (eCall (c .l_take) (aCons (eVar 1) (aCons (eC (.int 3)) aNil)))) (aCons (eBin addD (eC (.int 1)) (eCall (c .l_take) (aCons (eVar 1) (aCons (eC (.int 3)) aNil)))) (aCons (eFrz (fLst (aCons (eC (.str "set")) (aCons (eC (.str "add")) (aCons (eC (.str "add")) aNil))))) aNil))))))
theorem t3_ok {f b r : Nat} (hf : 20 ≤ f) {S : Sto} (h : BR S b r) (s0 s2 s3 s4 s5 s7 s8 s9 s10 s11 s12 s13 : Sl) : ∃ es S', t3 (calls f) [s0, .va (.hdl b), s2, s3, s4, s5, .va (.hdl r), s7, s8, s9, s10, s11, s12, s13] S = .nx [s0, .va (.hdl b), s2, s3, s4, s5, .va (.hdl r), .va (.lst (es.map rowD)), s8, s9, s10, s11, s12, s13] S' ∧ BR S' b r ∧ es.length ≤ 3 ∧ RowsOk es := by
  obtain ⟨q, o, e1, q0, q1, ho⟩ := takeF' b (by omega) S h.bag 3 (by decide) (by decide) (f := f)
  have h1 := h.setB ho
  obtain ⟨q', o', e2, q0', q1', ho'⟩ := takeF' b (by omega) _ h1.bag 3 (by decide) (by decide) (f := f)
  have h2 := h1.setB ho'
  obtain ⟨n, hn⟩ : ∃ n : Nat, (n : Int) = 1 + q := ⟨(1 + q).toNat, by omega⟩
  obtain ⟨k, hk⟩ : ∃ k : Nat, ((k + 1 : Nat) : Int) = 1 + q' := ⟨q'.toNat, by omega⟩
  obtain ⟨g, rfl⟩ : ∃ g, f = g + 2 := ⟨f - 2, by omega⟩
  obtain ⟨es, S3, e3, h3, hl, hr⟩ := rows_l (n := n) (rowF (f := g) (b := b) (r := r) (k := k) (by omega) (by omega)) (by omega) h2
  refine ⟨es, S3, ?_, h3, hl, hr⟩
  rw [hn, hk] at e3
  have el : ∀ S, kLst [Dv.str "set", .str "add", .str "add"] S = .ok kndL S := fun S => kLst_ok _ _ (line_le _ (by simp))
  unfold t3
  generalize es.map rowD = rs at *
  generalize kndL = kn at *
  simp [e1, e2, el, e3, -List.set_set]
def t1 (c : Fn → DF) : DS := sPar 4 5 (aCons (eCall (c .l_choices) (aCons (eVar 1) aNil)) (aCons (eCall (c .l_choices) (aCons (eVar 1) aNil)) aNil))
def t2 (c : Fn → DF) : DS := sAsg 6 (eCall (c .l_room) (aCons (eVar 1) (aCons (eC (.int 7)) (aCons (eC (.int 7)) (aCons (eC (.int 3)) (aCons (eC (.int 3)) (aCons (eC (.int 3)) aNil)))))))
def t4 (c : Fn → DF) : DS := sAsg 8 (eMk "Program" dl_Program_1 (c .Program_init) (aCons (eVar 7) aNil))
theorem t1_ok {f b : Nat} (hf : 3 ≤ f) {S : Sto} (h : BagAt S b) (s0 s2 s3 s4 s5 s6 s7 s8 s9 s10 s11 s12 s13 : Sl) : ∃ (l l' : Lg) (S' : Sto), t1 (calls f) [s0, .va (.hdl b), s2, s3, s4, s5, s6, s7, s8, s9, s10, s11, s12, s13] S = .nx [s0, .va (.hdl b), s2, s3, .va (.tup l.vals), .va (.tup l'.vals), s6, s7, s8, s9, s10, s11, s12, s13] S' ∧ BagAt S' b := by
  obtain ⟨g, rfl⟩ : ∃ g, f = g + 3 := ⟨f - 3, by omega⟩
  obtain ⟨l, o, e1, ho⟩ := choices_ok g h
  have h1 := h.set ho
  obtain ⟨l', o', e2, ho'⟩ := choices_ok g h1
  refine ⟨l, l', _, ?_, h1.set ho'⟩
  generalize l.vals = v at *
  generalize l'.vals = v' at *
  unfold t1
  simp [e1, e2, -List.set_set]
theorem t2_ok {f b : Nat} (hf : 3 ≤ f) {S : Sto} (h : BagAt S b) (s0 s2 s3 s4 s5 s6 s7 s8 s9 s10 s11 s12 s13 : Sl) : ∃ (r : Nat) (S' : Sto), t2 (calls f) [s0, .va (.hdl b), s2, s3, s4, s5, s6, s7, s8, s9, s10, s11, s12, s13] S = .nx [s0, .va (.hdl b), s2, s3, s4, s5, .va (.hdl r), s7, s8, s9, s10, s11, s12, s13] S' ∧ BR S' b r := by
  obtain ⟨g, rfl⟩ : ∃ g, f = g + 2 := ⟨f - 2, by omega⟩
  obtain ⟨S', e1, h1, _⟩ := room_ok (f := g) (b := b) (takeF' b (by omega)) h (k := 3) (by decide)
  refine ⟨S.length, S', ?_, h1⟩
  unfold t2
  simp [e1]
theorem t4_ok {f : Nat} (hf : 30 ≤ f) {es : List Rw} (hr : RowsOk es) (hl : es.length ≤ 3) (S : Sto) (s0 s1 s2 s3 s4 s5 s6 s8 s9 s10 s11 s12 s13 : Sl) : t4 (calls f) [s0, s1, s2, s3, s4, s5, s6, .va (.lst (es.map rowD)), s8, s9, s10, s11, s12, s13] S = .nx [s0, s1, s2, s3, s4, s5, s6, .va (.lst (es.map rowD)), .va (pgD es), s9, s10, s11, s12, s13] S := by
  obtain ⟨g, rfl⟩ : ∃ g, f = g + 1 := ⟨f - 1, by omega⟩
  have e1 := pmk_ok (F := g) (by omega) hr (by omega) S
  unfold t4
  generalize es.map rowD = rs at *
  have : eMk "Program" dl_Program_1 (calls (g + 1) .Program_init) (aCons (eVar 7) aNil) [s0, s1, s2, s3, s4, s5, s6, .va (.lst rs), s8, s9, s10, s11, s12, s13] S = kMk "Program" (calls (g + 1) .Program_init) [.lst rs] S := rfl
  rw [ev_asg, this, e1]
  rfl
end DL
namespace DL
open PySem L2
theorem BagAt.apps {S : Sto} {b : Nat} (T : Sto) (h : BagAt S b) : BagAt (S ++ T) b := by
  obtain ⟨q, h1, h2⟩ := h
  exact ⟨q, by rw [List.getElem?_append_left (List.getElem?_eq_some_iff.mp h1).1]; exact h1, h2⟩
theorem rows_z {es : List Rw} (hl : es.length ≤ 3) : es.length * 900 ≤ 11000000 := by omega
section
variable {f : Nat} {es : List Rw}
theorem steps_e (hf : 30 ≤ f) (h : RowsOk es) (hl : es.length ≤ 3) (l : Lg) (S : Sto) : ∃ T, calls f .steps S [pgD es, lgD l] = .ok (.tup ((outW l es).2)) (S ++ T) := by
  obtain ⟨g, rfl⟩ : ∃ g, f = g + 2 := ⟨f - 2, by omega⟩
  exact ⟨_, steps_ok (by omega) h (rows_z hl) l S⟩
theorem lcall_e (hf : 30 ≤ f) (h : RowsOk es) (hl : es.length ≤ 3) (l : Lg) (S : Sto) : ∃ T, calls f .Language_call S [lgD l, pgD es] = .ok (.tup ((outW l es).2)) (S ++ T) := by
  obtain ⟨g, rfl⟩ : ∃ g, f = g + 3 := ⟨f - 3, by omega⟩
  exact ⟨_, lcall_ok (by omega) h (rows_z hl) l S⟩
theorem due_e (hf : 30 ≤ f) (h : RowsOk es) (hl : es.length ≤ 3) (l : Lg) (S : Sto) : ∃ T, calls f .l_due S [.tup l.vals, .lst (es.map rowD)] = .ok (.tup ((outW l es).2)) (S ++ T) := by
  obtain ⟨g, rfl⟩ : ∃ g, f = g + 1 := ⟨f - 1, by omega⟩
  have e : (Dv.tup l.vals) = chD l.p l.s l.a (.str (mS l.m)) [.str (pS l.t), .str (xS l.x)] := by unfold chD; rw [← side_eq]; rfl
  rw [e]
  exact ⟨_, due_ok (by omega) h (rows_z hl) S⟩
theorem call9 (g : DF) (fa : DA) (e : Env) (l : Lg) (S : Sto) : kCallO "Language" g fa e (lgD l) S = bnd (fa e S) (kCallP "Language" g (lgD l)) := by unfold lgD; exact kCallO_obj ..
theorem call9p (g : DF) (as : List Dv) (l : Lg) (S : Sto) : kCallP "Language" g (lgD l) as S = g S (lgD l :: as) := by unfold lgD; exact kCallP_obj ..
theorem l0_ok (hf : 30 ≤ f) (h : RowsOk es) (hl : es.length ≤ 3) (l : Lg) (S : Sto) (s0 s1 s2 s3 s4 s5 s6 s11 s12 s13 : Sl) : ∃ T, fb_law_l0 (calls f) [s0, s1, s2, s3, s4, s5, s6, .va (.lst (es.map rowD)), .va (pgD es), .va (lgD l), .va (.tup l.vals), s11, s12, s13] S = .nx [s0, s1, s2, s3, s4, s5, s6, .va (.lst (es.map rowD)), .va (pgD es), .va (lgD l), .va (.tup l.vals), s11, s12, s13] (S ++ T) := by
  obtain ⟨T1, e1⟩ := lcall_e hf h hl l S
  obtain ⟨T2, e2⟩ := due_e hf h hl l (S ++ T1)
  obtain ⟨⟨x, hx⟩, _⟩ := out_ok l h hl
  have c1 := fun g fa e S => call9 g fa e l S
  have c2 := fun g as S => call9p g as l S
  refine ⟨T1 ++ T2, ?_⟩
  rw [← List.append_assoc]
  generalize S ++ T1 ++ T2 = S2 at *
  generalize S ++ T1 = S1 at *
  generalize (outW l es).2 = M at *
  generalize es.map rowD = rs at *
  generalize pgD es = pg at *
  generalize lgD l = L at *
  generalize l.vals = v at *
  simp [fb_law_l0, c1, c2, e1, e2, hx]
def eldD (l : Lg) : Dv := .tup [lgD l, .tup l.vals]
theorem l0_loop {b : Nat} (hf : 30 ≤ f) (h : RowsOk es) (hl : es.length ≤ 3) (s0 s1 s2 s3 s4 s5 s6 s11 s12 s13 : Sl) : ∀ (ls : List Lg) (S : Sto) (s9 s10 : Sl), BagAt S b → ∃ z9 z10 S', forR (gT (gsCons (gN 9) (gsCons (gN 10) gsNil))) (fb_law_l0 (calls f)) (ls.map eldD) [s0, s1, s2, s3, s4, s5, s6, .va (.lst (es.map rowD)), .va (pgD es), s9, s10, s11, s12, s13] S = .nx [s0, s1, s2, s3, s4, s5, s6, .va (.lst (es.map rowD)), .va (pgD es), z9, z10, s11, s12, s13] S' ∧ BagAt S' b
  | [], S, s9, s10, hB => ⟨s9, s10, S, rfl, hB⟩
  | l :: ls, S, s9, s10, hB => by
    obtain ⟨T, e1⟩ := l0_ok hf h hl l S s0 s1 s2 s3 s4 s5 s6 s11 s12 s13
    obtain ⟨z9, z10, S', e2, hB'⟩ := l0_loop hf h hl s0 s1 s2 s3 s4 s5 s6 s11 s12 s13  ls (S ++ T) (.va (lgD l)) (.va (.tup l.vals)) (hB.apps T)
    exact ⟨z9, z10, S', by rw [List.map_cons, forR_nx rfl e1, e2], hB'⟩
theorem l1_ok (hf : 30 ≤ f) (h : RowsOk es) (hl : es.length ≤ 3) (l : Lg) (S : Sto) (s0 s1 s2 s3 s4 s5 s6 s7 s10 s12 s13 : Sl) : ∃ T, fb_law_l1 (calls f) [s0, s1, s2, s3, s4, s5, s6, s7, .va (pgD es), .va (lgD l), s10, .va (.tup ((outW l es).2)), s12, s13] S = .nx [s0, s1, s2, s3, s4, s5, s6, s7, .va (pgD es), .va (lgD l), s10, .va (.tup ((outW l es).2)), s12, .va (.tup ((outW l es).2))] (S ++ T) := by
  obtain ⟨T1, e1⟩ := steps_e hf h hl l S
  obtain ⟨⟨x, hx⟩, he⟩ := out_ok l h hl
  refine ⟨T1, ?_⟩
  generalize S ++ T1 = S1 at *
  generalize (outW l es).2 = M at *
  generalize pgD es = pg at *
  generalize lgD l = L at *
  simp [fb_law_l1, e1, hx, he]
theorem l1_loop {b : Nat} (hf : 30 ≤ f) (h : RowsOk es) (hl : es.length ≤ 3) (l : Lg) (s0 s1 s2 s3 s4 s5 s6 s7 s10 : Sl) : ∀ (is : List Dv) (S : Sto) (s12 s13 : Sl), BagAt S b → ∃ z12 z13 S', forR (gN 12) (fb_law_l1 (calls f)) is [s0, s1, s2, s3, s4, s5, s6, s7, .va (pgD es), .va (lgD l), s10, .va (.tup ((outW l es).2)), s12, s13] S = .nx [s0, s1, s2, s3, s4, s5, s6, s7, .va (pgD es), .va (lgD l), s10, .va (.tup ((outW l es).2)), z12, z13] S' ∧ BagAt S' b
  | [], S, s12, s13, hB => ⟨s12, s13, S, rfl, hB⟩
  | i :: is, S, s12, s13, hB => by
    obtain ⟨T, e1⟩ := l1_ok hf h hl l S s0 s1 s2 s3 s4 s5 s6 s7 s10 (.va i) s13
    obtain ⟨z12, z13, S', e2, hB'⟩ := l1_loop hf h hl l s0 s1 s2 s3 s4 s5 s6 s7 s10  is (S ++ T) (.va i) (.va (.tup ((outW l es).2))) (hB.apps T)
    exact ⟨z12, z13, S', by rw [forR_nx rfl e1, e2], hB'⟩
def u1 (c : Fn → DF) : DS := sPar 11 9 (aCons (eCall (c .l_due) (aCons (eVar 10) (aCons (eVar 7) aNil))) (aCons (eCall (c .l_language) (aCons (eVar 10) aNil)) aNil))
def u2 : DS := sOwnM appD 2 (aCons (eTup (aCons (eVar 9) (aCons (eVar 10) aNil))) aNil)
def u4 (c : Fn → DF) : DS := sIf (tVal (eBin neE (eCB reprD (aCons (eCallO "Language" (c .Language_call) 9 (aCons (eVar 8) aNil)) aNil)) (eCB reprD (aCons (eVar 11) aNil)))) (sRet (eC (.bl false))) sNil
theorem l2_eq (c : Fn → DF) : fb_law_l2 c = sSeq (u1 c) (sSeq u2 (sSeq (sFor (iRng1' (aCons (eC (.int 2)) aNil)) (gN 12) (fb_law_l1 c)) (u4 c))) := rfl
theorem u1_ok (hf : 30 ≤ f) (h : RowsOk es) (hl : es.length ≤ 3) (l : Lg) (S : Sto) (s0 s1 s2 s3 s4 s5 s6 s8 s9 s11 s12 s13 : Sl) : ∃ T, u1 (calls f) [s0, s1, s2, s3, s4, s5, s6, .va (.lst (es.map rowD)), s8, s9, .va (.tup l.vals), s11, s12, s13] S = .nx [s0, s1, s2, s3, s4, s5, s6, .va (.lst (es.map rowD)), s8, .va (lgD l), .va (.tup l.vals), .va (.tup ((outW l es).2)), s12, s13] (S ++ T) := by
  obtain ⟨T1, e1⟩ := due_e hf h hl l S
  obtain ⟨g, rfl⟩ : ∃ g, f = g + 2 := ⟨f - 2, by omega⟩
  have e2 := fun S => language_ok g S l
  refine ⟨T1, ?_⟩
  generalize S ++ T1 = S1 at *
  generalize (outW l es).2 = M at *
  generalize es.map rowD = rs at *
  generalize lgD l = L at *
  generalize l.vals = v at *
  simp [u1, e1, e2]
theorem u2_ok (el : List Dv) (he : el.length ≤ 1000) (L C : Dv) (S : Sto) (s0 s1 s3 s4 s5 s6 s7 s8 s11 s12 s13 : Sl) : u2 [s0, s1, .ow el, s3, s4, s5, s6, s7, s8, .va L, .va C, s11, s12, s13] S = .nx [s0, s1, .ow (el ++ [.tup [L, C]]), s3, s4, s5, s6, s7, s8, .va L, .va C, s11, s12, s13] S := by
  have : el.length < sizeLine := by rw [sizeLine_eq]; omega
  simp [u2, this]
theorem u4_ok (hf : 30 ≤ f) (h : RowsOk es) (hl : es.length ≤ 3) (l : Lg) (S : Sto) (s0 s1 s2 s3 s4 s5 s6 s7 s10 s12 s13 : Sl) : ∃ T, u4 (calls f) [s0, s1, s2, s3, s4, s5, s6, s7, .va (pgD es), .va (lgD l), s10, .va (.tup ((outW l es).2)), s12, s13] S = .nx [s0, s1, s2, s3, s4, s5, s6, s7, .va (pgD es), .va (lgD l), s10, .va (.tup ((outW l es).2)), s12, s13] (S ++ T) := by
  obtain ⟨T1, e1⟩ := lcall_e hf h hl l S
  obtain ⟨⟨x, hx⟩, _⟩ := out_ok l h hl
  have c1 := fun g fa e S => call9 g fa e l S
  have c2 := fun g as S => call9p g as l S
  refine ⟨T1, ?_⟩
  generalize S ++ T1 = S1 at *
  generalize (outW l es).2 = M at *
  generalize pgD es = pg at *
  generalize lgD l = L at *
  simp [u4, c1, c2, e1, hx]
theorem l2_ok {b : Nat} (hf : 30 ≤ f) (h : RowsOk es) (hl : es.length ≤ 3) (l : Lg) {S : Sto} (hB : BagAt S b) (el : List Dv) (he : el.length ≤ 1000) (s0 s1 s3 s4 s5 s6 s9 s11 s12 s13 : Sl) : ∃ z9 z11 z12 z13 S', fb_law_l2 (calls f) [s0, s1, .ow el, s3, s4, s5, s6, .va (.lst (es.map rowD)), .va (pgD es), s9, .va (.tup l.vals), s11, s12, s13] S = .nx [s0, s1, .ow (el ++ [eldD l]), s3, s4, s5, s6, .va (.lst (es.map rowD)), .va (pgD es), z9, .va (.tup l.vals), z11, z12, z13] S' ∧ BagAt S' b := by
  obtain ⟨T1, e1⟩ := u1_ok hf h hl l S s0 s1 (.ow el) s3 s4 s5 s6 (.va (pgD es)) s9 s11 s12 s13
  have e2 := u2_ok el he (lgD l) (.tup l.vals) (S ++ T1) s0 s1 s3 s4 s5 s6 (.va (.lst (es.map rowD))) (.va (pgD es)) (.va (.tup ((outW l es).2))) s12 s13
  obtain ⟨z12, z13, S2, e3, hB2⟩ := l1_loop hf h hl l s0 s1 (.ow (el ++ [eldD l])) s3 s4 s5 s6 (.va (.lst (es.map rowD))) (.va (.tup l.vals))  (rngD 0 2) (S ++ T1) s12 s13 (hB.apps T1)
  obtain ⟨T4, e4⟩ := u4_ok hf h hl l S2 s0 s1 (.ow (el ++ [eldD l])) s3 s4 s5 s6 (.va (.lst (es.map rowD))) (.va (.tup l.vals)) z12 z13
  refine ⟨.va (lgD l), .va (.tup ((outW l es).2)), z12, z13, S2 ++ T4, ?_, hB2.apps T4⟩
  have er : ∀ e S, (iRng1' (aCons (eC (.int 2)) aNil)) e S = .ok (rngD 0 2) S := fun e S => rfl
  change u2 _ _ = .nx [s0, s1, .ow (el ++ [eldD l]), s3, s4, s5, s6, .va (.lst (es.map rowD)), .va (pgD es), .va (lgD l), .va (.tup l.vals), .va (.tup ((outW l es).2)), s12, s13] (S ++ T1) at e2
  rw [l2_eq]
  generalize u1 (calls f) = U1 at *
  generalize u2 = U2 at *
  generalize u4 (calls f) = U4 at *
  generalize iRng1' (aCons (eC (.int 2)) aNil) = J at *
  generalize fb_law_l1 (calls f) = F at *
  generalize rngD 0 2 = N at *
  simp only [ev_seq, kSeq_nx, e1, e2, ev_for, er, kS_ok, ev_qfor, e3, e4]
end
end DL
namespace DL
open PySem L2
theorem l3_eq (c : Fn → DF) : fb_law_l3 c = sSeq (t1 c) (sSeq (t2 c) (sSeq (t3 c) (sSeq (t4 c) (sSeq (sFz 2) (sSeq (sFor (iSq (eVar 2)) (gT (gsCons (gN 9) (gsCons (gN 10) gsNil))) (fb_law_l0 c)) (sSeq (sOwnN 2 (nL (fLst aNil))) (sFor (iSq (eTup (aCons (eVar 4) (aCons (eVar 5) aNil)))) (gN 10) (fb_law_l2 c)))))))) := rfl
/-- the elders -/
def Eld (s : Sl) : Prop := ∃ ls : List Lg, s = .va (.lst (ls.map eldD)) ∨ s = .ow (ls.map eldD)
theorem fz_ok {s2 : Sl} (h : Eld s2) : ∃ ls : List Lg, ∀ (s0 s1 s3 s4 s5 s6 s7 s8 s9 s10 s11 s12 s13 : Sl) (S : Sto), sFz 2 [s0, s1, s2, s3, s4, s5, s6, s7, s8, s9, s10, s11, s12, s13] S = .nx [s0, s1, .va (.lst (ls.map eldD)), s3, s4, s5, s6, s7, s8, s9, s10, s11, s12, s13] S := by
  obtain ⟨ls, rfl | rfl⟩ := h
  · exact ⟨ls, fun _ _ _ _ _ _ _ _ _ _ _ _ _ _ => rfl⟩
  · exact ⟨ls, fun _ _ _ _ _ _ _ _ _ _ _ _ _ _ => rfl⟩
theorem l3_ok {f b : Nat} (hf : 35 ≤ f) {S : Sto} (hB : BagAt S b) {s2 : Sl} (hE : Eld s2) (s0 s3 s4 s5 s6 s7 s8 s9 s10 s11 s12 s13 : Sl) : ∃ z2 z4 z5 z6 z7 z8 z9 z10 z11 z12 z13 S', fb_law_l3 (calls f) [s0, .va (.hdl b), s2, s3, s4, s5, s6, s7, s8, s9, s10, s11, s12, s13] S = .nx [s0, .va (.hdl b), z2, s3, z4, z5, z6, z7, z8, z9, z10, z11, z12, z13] S' ∧ BagAt S' b ∧ Eld z2 := by
  obtain ⟨l, l', S1, e1, hB1⟩ := t1_ok (f := f) (by omega) hB s0 s2 s3 s4 s5 s6 s7 s8 s9 s10 s11 s12 s13
  obtain ⟨r, S2, e2, hB2⟩ := t2_ok (f := f) (by omega) hB1 s0 s2 s3 (.va (.tup l.vals)) (.va (.tup l'.vals)) s6 s7 s8 s9 s10 s11 s12 s13
  obtain ⟨es, S3, e3, hB3, hl, hr⟩ := t3_ok (f := f) (by omega) hB2 s0 s2 s3 (.va (.tup l.vals)) (.va (.tup l'.vals)) s7 s8 s9 s10 s11 s12 s13
  have e4 := t4_ok (f := f) (by omega) hr hl S3 s0 (.va (.hdl b)) s2 s3 (.va (.tup l.vals)) (.va (.tup l'.vals)) (.va (.hdl r)) s8 s9 s10 s11 s12 s13
  obtain ⟨ls, e5⟩ := fz_ok hE
  have e5 := e5 s0 (.va (.hdl b)) s3 (.va (.tup l.vals)) (.va (.tup l'.vals)) (.va (.hdl r)) (.va (.lst (es.map rowD))) (.va (pgD es)) s9 s10 s11 s12 s13  S3
  obtain ⟨q9, q10, S6, e6, hB6⟩ := l0_loop (f := f) (by omega) hr hl s0 (.va (.hdl b)) (.va (.lst (ls.map eldD))) s3 (.va (.tup l.vals)) (.va (.tup l'.vals)) (.va (.hdl r)) s11 s12 s13  ls S3 s9 s10 hB3.bag
  obtain ⟨a9, a11, a12, a13, S7, e7, hB7⟩ := l2_ok (f := f) (by omega) hr hl l hB6 [] (by simp) s0 (.va (.hdl b)) s3 (.va (.tup l.vals)) (.va (.tup l'.vals)) (.va (.hdl r)) q9 s11 s12 s13
  obtain ⟨c9, c11, c12, c13, S8, e8, hB8⟩ := l2_ok (f := f) (by omega) hr hl l' hB7 ([] ++ [eldD l]) (by simp) s0 (.va (.hdl b)) s3 (.va (.tup l.vals)) (.va (.tup l'.vals)) (.va (.hdl r)) a9 a11 a12 a13
  refine ⟨.ow ([] ++ [eldD l] ++ [eldD l']), .va (.tup l.vals), .va (.tup l'.vals), .va (.hdl r), .va (.lst (es.map rowD)), .va (pgD es), c9, .va (.tup l'.vals), c11, c12, c13, S8, ?_, hB8, [l, l'], .inr rfl⟩
  rw [l3_eq]
  have j1 : ∀ (d : List Dv) (x0 x1 x3 x4 x5 x6 x7 x8 x9 x10 x11 x12 x13 : Sl) (S : Sto), iSq (eVar 2) [x0, x1, .va (.lst d), x3, x4, x5, x6, x7, x8, x9, x10, x11, x12, x13] S = .ok d S := fun _ _ _ _ _ _ _ _ _ _ _ _ _ _ _ => rfl
  have j2 : ∀ (d d' : Dv) (x0 x1 x2 x3 x6 x7 x8 x9 x10 x11 x12 x13 : Sl) (S : Sto), iSq (eTup (aCons (eVar 4) (aCons (eVar 5) aNil))) [x0, x1, x2, x3, .va d, .va d', x6, x7, x8, x9, x10, x11, x12, x13] S = .ok [d, d'] S := fun _ _ _ _ _ _ _ _ _ _ _ _ _ _ _ => rfl
  have j3 : ∀ (x0 x1 x2 x3 x4 x5 x6 x7 x8 x9 x10 x11 x12 x13 : Sl) (S : Sto), sOwnN 2 (nL (fLst aNil)) [x0, x1, x2, x3, x4, x5, x6, x7, x8, x9, x10, x11, x12, x13] S = .nx [x0, x1, .ow [], x3, x4, x5, x6, x7, x8, x9, x10, x11, x12, x13] S := fun _ _ _ _ _ _ _ _ _ _ _ _ _ _ _ => by simp
  have e9 : forR (gN 10) (fb_law_l2 (calls f)) [.tup l.vals, .tup l'.vals] [s0, .va (.hdl b), .ow [], s3, .va (.tup l.vals), .va (.tup l'.vals), .va (.hdl r), .va (.lst (es.map rowD)), .va (pgD es), q9, q10, s11, s12, s13] S6 = .nx [s0, .va (.hdl b), .ow ([] ++ [eldD l] ++ [eldD l']), s3, .va (.tup l.vals), .va (.tup l'.vals), .va (.hdl r), .va (.lst (es.map rowD)), .va (pgD es), c9, .va (.tup l'.vals), c11, c12, c13] S8 := by
    rw [forR_nx rfl e7, forR_nx rfl e8]
    rfl
  generalize t1 (calls f) = A1 at *
  generalize t2 (calls f) = A2 at *
  generalize t3 (calls f) = A3 at *
  generalize t4 (calls f) = A4 at *
  generalize sFz 2 = A5 at *
  generalize sOwnN 2 (nL (fLst aNil)) = A6 at *
  generalize iSq (eVar 2) = J1 at *
  generalize iSq (eTup (aCons (eVar 4) (aCons (eVar 5) aNil))) = J2 at *
  generalize fb_law_l0 (calls f) = F0 at *
  generalize fb_law_l2 (calls f) = F2 at *
  simp only [ev_seq, kSeq_nx, e1, e2, e3, e4, e5, ev_for, j1, kS_ok, ev_qfor, e6, j3, j2, e9]
theorem loop3 {f b : Nat} (hf : 35 ≤ f) (s0 : Sl) : ∀ (l : List Dv) (S : Sto) (s2 s3 s4 s5 s6 s7 s8 s9 s10 s11 s12 s13 : Sl), BagAt S b → Eld s2 → ∃ z S', forR (gN 3) (fb_law_l3 (calls f)) l [s0, .va (.hdl b), s2, s3, s4, s5, s6, s7, s8, s9, s10, s11, s12, s13] S = .nx z S'
  | [], S, s2, s3, s4, s5, s6, s7, s8, s9, s10, s11, s12, s13, _, _ => ⟨_, S, rfl⟩
  | x :: l, S, s2, s3, s4, s5, s6, s7, s8, s9, s10, s11, s12, s13, h, hE => by
    obtain ⟨z2, z4, z5, z6, z7, z8, z9, z10, z11, z12, z13, S1, e1, h1, hE1⟩ := l3_ok hf h hE s0 (.va x) s4 s5 s6 s7 s8 s9 s10 s11 s12 s13
    obtain ⟨z, S2, e2⟩ := loop3 hf s0 l S1 z2 (.va x) z4 z5 z6 z7 z8 z9 z10 z11 z12 z13  h1 hE1
    exact ⟨z, S2, by rw [forR_nx rfl e1, e2]⟩
theorem law_true (ns : List Int) (h : ns.length ≤ 63) : ∃ S, calls (40 + 1) .law [] [.rol (ns.map .int)] = .ok (.bl true) S := by
  obtain ⟨o, eb, ho⟩ := bag_ok 39 [] ns h
  obtain ⟨z, S', e⟩ := loop3 (f := 40) (b := 0) (by decide) (.va (.rol (ns.map .int))) (rngD 0 5) [o] (.ow []) .no .no .no .no .no .no .no .no .no .no .no (bag_at ho) ⟨[], .inr rfl⟩
  refine ⟨S', ?_⟩
  have e7 : ∀ e S, (iRng1' (aCons (eC (.int 5)) aNil)) e S = .ok (rngD 0 5) S := fun e S => rfl
  have eb' : calls 40 .l_bag [] [.rol (ns.map .int)] = .ok (.hdl 0) [o] := eb
  rw [ev_law]
  unfold fb_law
  generalize fb_law_l3 (calls 40) = F at *
  generalize calls 40 = c at *
  generalize iRng1' (aCons (eC (.int 5)) aNil) = J at *
  generalize rngD 0 5 = N at *
  generalize ns.map Dv.int = M at *
  have ea : sParB [1, 2] (bVa (eCall (c .l_bag) (aCons (eVar 0) aNil)) (bOwn (nL (fLst aNil)) bNil)) [.va (.rol M), .no, .no, .no, .no, .no, .no, .no, .no, .no, .no, .no, .no, .no] [] = .nx [.va (.rol M), .va (.hdl 0), .ow [], .no, .no, .no, .no, .no, .no, .no, .no, .no, .no, .no] [o] := by
    simp [eb']
  rw [ev_seq, ea, kSeq_nx]
  simp [e7, e]
end DL
namespace Row
open PySem L2 DL
structure Tx (K : PySem.W.Frag) (w : World) (mg : Str → Option Value) : Prop where
  f_abs : mg "abs" = none
  f_bool : mg "bool" = none
  f_dict : mg "dict" = none
  f_enumerate : mg "enumerate" = none
  f_int : mg "int" = none
  f_isinstance : mg "isinstance" = none
  f_len : mg "len" = none
  f_list : mg "list" = none
  f_range : mg "range" = none
  f_repr : mg "repr" = none
  f_str : mg "str" = none
  f_tuple : mg "tuple" = none
  f_zip : mg "zip" = none
  c_DIGITS : GlobC K mg "DIGITS" c_DIGITS
  c_LETTERS : GlobC K mg "LETTERS" c_LETTERS
  c_RESERVED : GlobC K mg "RESERVED" c_RESERVED
  c_CHOICES : GlobC K mg "CHOICES" c_CHOICES
  g_as_tuples : mg "as_tuples" = some (.ref (He.ga K "as_tuples"))
  g_values_in : mg "values_in" = some (.ref (He.ga K "values_in"))
  g_places_in : mg "places_in" = some (.ref (He.ga K "places_in"))
  g_parts_of : mg "parts_of" = some (.ref (He.ga K "parts_of"))
  g_all_names : mg "all_names" = some (.ref (He.ga K "all_names"))
  g_read_in : mg "read_in" = some (.ref (He.ga K "read_in"))
  g_is_made_of : mg "is_made_of" = some (.ref (He.ga K "is_made_of"))
  g_is_helper : mg "is_helper" = some (.ref (He.ga K "is_helper"))
  g_unset_in : mg "unset_in" = some (.ref (He.ga K "unset_in"))
  g_has_form : mg "has_form" = some (.ref (He.ga K "has_form"))
  g_is_list_of : mg "is_list_of" = some (.ref (He.ga K "is_list_of"))
  g_is_own_name : mg "is_own_name" = some (.ref (He.ga K "is_own_name"))
  g_is_name : mg "is_name" = some (.ref (He.ga K "is_name"))
  g_is_word : mg "is_word" = some (.ref (He.ga K "is_word"))
  g_is_sign : mg "is_sign" = some (.ref (He.ga K "is_sign"))
  g_is_expression : mg "is_expression" = some (.ref (He.ga K "is_expression"))
  g_is_place : mg "is_place" = some (.ref (He.ga K "is_place"))
  g_is_many : mg "is_many" = some (.ref (He.ga K "is_many"))
  g_is_simple_row : mg "is_simple_row" = some (.ref (He.ga K "is_simple_row"))
  g_is_any : mg "is_any" = some (.ref (He.ga K "is_any"))
  g_is_operand : mg "is_operand" = some (.ref (He.ga K "is_operand"))
  g_blocks_of : mg "blocks_of" = some (.ref (He.ga K "blocks_of"))
  g_fault_in : mg "fault_in" = some (.ref (He.ga K "fault_in"))
  g_first_fault : mg "first_fault" = some (.ref (He.ga K "first_fault"))
  g_helper_number : mg "helper_number" = some (.ref (He.ga K "helper_number"))
  g_l_bag : mg "_law_bag" = some (.ref (He.ga K "_law_bag"))
  g_l_take : mg "_law_take" = some (.ref (He.ga K "_law_take"))
  g_l_names : mg "_law_names" = some (.ref (He.ga K "_law_names"))
  g_l_signs : mg "_law_signs" = some (.ref (He.ga K "_law_signs"))
  g_l_words : mg "_law_words" = some (.ref (He.ga K "_law_words"))
  g_l_room : mg "_law_room" = some (.ref (He.ga K "_law_room"))
  g_l_one : mg "_law_one" = some (.ref (He.ga K "_law_one"))
  g_l_operand : mg "_law_operand" = some (.ref (He.ga K "_law_operand"))
  g_l_value : mg "_law_value" = some (.ref (He.ga K "_law_value"))
  g_l_place : mg "_law_place" = some (.ref (He.ga K "_law_place"))
  g_l_row : mg "_law_row" = some (.ref (He.ga K "_law_row"))
  g_l_rows : mg "_law_rows" = some (.ref (He.ga K "_law_rows"))
  g_l_choices : mg "_law_choices" = some (.ref (He.ga K "_law_choices"))
  g_build_set : mg "build_set" = some (.ref (He.ga K "build_set"))
  g_build_add : mg "build_add" = some (.ref (He.ga K "build_add"))
  g_build_rows : mg "build_rows" = some (.ref (He.ga K "build_rows"))
  g_steps : mg "steps" = some (.ref (He.ga K "steps"))
  g_l_order : mg "_law_order" = some (.ref (He.ga K "_law_order"))
  g_l_box : mg "_law_box" = some (.ref (He.ga K "_law_box"))
  g_l_call : mg "_law_call" = some (.ref (He.ga K "_law_call"))
  g_l_work : mg "_law_work" = some (.ref (He.ga K "_law_work"))
  g_l_work_all : mg "_law_work_all" = some (.ref (He.ga K "_law_work_all"))
  g_l_find : mg "_law_find" = some (.ref (He.ga K "_law_find"))
  g_l_store : mg "_law_store" = some (.ref (He.ga K "_law_store"))
  g_l_do_set : mg "_law_do_set" = some (.ref (He.ga K "_law_do_set"))
  g_l_look : mg "_law_look" = some (.ref (He.ga K "_law_look"))
  g_l_do_add : mg "_law_do_add" = some (.ref (He.ga K "_law_do_add"))
  g_l_due : mg "_law_due" = some (.ref (He.ga K "_law_due"))
  g_l_language : mg "_law_language" = some (.ref (He.ga K "_law_language"))
  g_law : mg "law" = some (.ref (He.ga K "law"))
  g_Builder : mg "Builder" = some (.ref (He.ga K "Builder"))
  g_Language : mg "Language" = some (.ref (He.ga K "Language"))
  g_Program : mg "Program" = some (.ref (He.ga K "Program"))
  k_Builder : Cls K (He.ga K "Builder")
  k_Language : Cls K (He.ga K "Language")
  k_Program : Cls K (He.ga K "Program")
  mk_Builder : Mk K (He.ga K "Builder") (He.ma K (He.ga K "Builder") "__init__")
  mk_Language : Mk K (He.ga K "Language") (He.ma K (He.ga K "Language") "__init__")
  mk_Program : Mk K (He.ga K "Program") (He.ma K (He.ga K "Program") "__init__")
  na_Builder_boxes : NoAttr K (He.ga K "Builder") "boxes"
  na_Builder_made : NoAttr K (He.ga K "Builder") "made"
  na_Builder_rules : NoAttr K (He.ga K "Builder") "rules"
  na_Language_adding : NoAttr K (He.ga K "Language") "adding"
  na_Language_exchanging : NoAttr K (He.ga K "Language") "exchanging"
  na_Language_given : NoAttr K (He.ga K "Language") "given"
  na_Language_many : NoAttr K (He.ga K "Language") "many"
  na_Language_parts : NoAttr K (He.ga K "Language") "parts"
  na_Language_rank : NoAttr K (He.ga K "Language") "rank"
  na_Language_single : NoAttr K (He.ga K "Language") "single"
  na_Language_stores : NoAttr K (He.ga K "Language") "stores"
  na_Program_held : NoAttr K (He.ga K "Program") "held"
  fn_Language_call : PySem.W.fnIn K (He.ma K (He.ga K "Language") "__call__") = true
  m_Builder_fresh : Meth K (He.ga K "Builder") "fresh" (He.ma K (He.ga K "Builder") "fresh")
  m_Builder_call : Meth K (He.ga K "Builder") "call" (He.ma K (He.ga K "Builder") "call")
  m_Builder_read : Meth K (He.ga K "Builder") "read" (He.ma K (He.ga K "Builder") "read")
  m_Builder_get_cell : Meth K (He.ga K "Builder") "get_cell" (He.ma K (He.ga K "Builder") "get_cell")
  m_Builder_read_place : Meth K (He.ga K "Builder") "read_place" (He.ma K (He.ga K "Builder") "read_place")
  m_Builder_in_parts : Meth K (He.ga K "Builder") "in_parts" (He.ma K (He.ga K "Builder") "in_parts")
  m_Builder_work_all : Meth K (He.ga K "Builder") "work_all" (He.ma K (He.ga K "Builder") "work_all")
  m_Builder_find_place : Meth K (He.ga K "Builder") "find_place" (He.ma K (He.ga K "Builder") "find_place")
  m_Builder_work : Meth K (He.ga K "Builder") "work" (He.ma K (He.ga K "Builder") "work")
  m_Builder_write_place : Meth K (He.ga K "Builder") "write_place" (He.ma K (He.ga K "Builder") "write_place")
  m_Program_rows : Meth K (He.ga K "Program") "rows" (He.ma K (He.ga K "Program") "rows")
  m_Language_call : Meth K (He.ga K "Language") "__call__" (He.ma K (He.ga K "Language") "__call__")
  t_VALUES : GlobD K w mg "VALUES" t_VALUES
  d_as_tuples : ∃ fd, FunD K "as_tuples" "as_tuples" (defArgs st_as_tuples) (defBody st_as_tuples) (defScope st_as_tuples) [] [] (He.ga K "as_tuples") fd
  d_values_in : ∃ fd, FunD K "values_in" "values_in" (defArgs st_values_in) (defBody st_values_in) (defScope st_values_in) [] [] (He.ga K "values_in") fd
  d_places_in : ∃ fd, FunD K "places_in" "places_in" (defArgs st_places_in) (defBody st_places_in) (defScope st_places_in) [] [] (He.ga K "places_in") fd
  d_parts_of : ∃ fd, FunD K "parts_of" "parts_of" (defArgs st_parts_of) (defBody st_parts_of) (defScope st_parts_of) [] [] (He.ga K "parts_of") fd
  d_all_names : ∃ fd, FunD K "all_names" "all_names" (defArgs st_all_names) (defBody st_all_names) (defScope st_all_names) [] [] (He.ga K "all_names") fd
  d_read_in : ∃ fd, FunD K "read_in" "read_in" (defArgs st_read_in) (defBody st_read_in) (defScope st_read_in) [] [] (He.ga K "read_in") fd
  d_is_made_of : ∃ fd, FunD K "is_made_of" "is_made_of" (defArgs st_is_made_of) (defBody st_is_made_of) (defScope st_is_made_of) [] [] (He.ga K "is_made_of") fd
  d_is_helper : ∃ fd, FunD K "is_helper" "is_helper" (defArgs st_is_helper) (defBody st_is_helper) (defScope st_is_helper) [] [] (He.ga K "is_helper") fd
  d_unset_in : ∃ fd, FunD K "unset_in" "unset_in" (defArgs st_unset_in) (defBody st_unset_in) (defScope st_unset_in) [] [] (He.ga K "unset_in") fd
  d_has_form : ∃ fd, FunD K "has_form" "has_form" (defArgs st_has_form) (defBody st_has_form) (defScope st_has_form) [] [] (He.ga K "has_form") fd
  d_is_list_of : ∃ fd, FunD K "is_list_of" "is_list_of" (defArgs st_is_list_of) (defBody st_is_list_of) (defScope st_is_list_of) [] [] (He.ga K "is_list_of") fd
  d_is_own_name : ∃ fd, FunD K "is_own_name" "is_own_name" (defArgs st_is_own_name) (defBody st_is_own_name) (defScope st_is_own_name) [] [] (He.ga K "is_own_name") fd
  d_is_name : ∃ fd, FunD K "is_name" "is_name" (defArgs st_is_name) (defBody st_is_name) (defScope st_is_name) [] [] (He.ga K "is_name") fd
  d_is_word : ∃ fd, FunD K "is_word" "is_word" (defArgs st_is_word) (defBody st_is_word) (defScope st_is_word) [] [] (He.ga K "is_word") fd
  d_is_sign : ∃ fd, FunD K "is_sign" "is_sign" (defArgs st_is_sign) (defBody st_is_sign) (defScope st_is_sign) [] [] (He.ga K "is_sign") fd
  d_is_expression : ∃ fd, FunD K "is_expression" "is_expression" (defArgs st_is_expression) (defBody st_is_expression) (defScope st_is_expression) [] [] (He.ga K "is_expression") fd
  d_is_place : ∃ fd, FunD K "is_place" "is_place" (defArgs st_is_place) (defBody st_is_place) (defScope st_is_place) [] [] (He.ga K "is_place") fd
  d_is_many : ∃ fd, FunD K "is_many" "is_many" (defArgs st_is_many) (defBody st_is_many) (defScope st_is_many) [] [] (He.ga K "is_many") fd
  d_is_simple_row : ∃ fd, FunD K "is_simple_row" "is_simple_row" (defArgs st_is_simple_row) (defBody st_is_simple_row) (defScope st_is_simple_row) [] [] (He.ga K "is_simple_row") fd
  d_is_any : ∃ fd, FunD K "is_any" "is_any" (defArgs st_is_any) (defBody st_is_any) (defScope st_is_any) [] [] (He.ga K "is_any") fd
  d_is_operand : ∃ fd, FunD K "is_operand" "is_operand" (defArgs st_is_operand) (defBody st_is_operand) (defScope st_is_operand) [] [] (He.ga K "is_operand") fd
  d_blocks_of : ∃ fd, FunD K "blocks_of" "blocks_of" (defArgs st_blocks_of) (defBody st_blocks_of) (defScope st_blocks_of) [] [] (He.ga K "blocks_of") fd
  d_fault_in : ∃ fd, FunD K "fault_in" "fault_in" (defArgs st_fault_in) (defBody st_fault_in) (defScope st_fault_in) [] [] (He.ga K "fault_in") fd
  d_first_fault : ∃ fd, FunD K "first_fault" "first_fault" (defArgs st_first_fault) (defBody st_first_fault) (defScope st_first_fault) [] [] (He.ga K "first_fault") fd
  d_helper_number : ∃ fd, FunD K "helper_number" "helper_number" (defArgs st_helper_number) (defBody st_helper_number) (defScope st_helper_number) [] [] (He.ga K "helper_number") fd
  d_Program_init : ∃ fd, FunD K "__init__" "Program.__init__" (defArgs st_Program_init) (defBody st_Program_init) (defScope st_Program_init) [] [] (He.ma K (He.ga K "Program") "__init__") fd
  d_l_bag : ∃ fd, FunD K "_law_bag" "_law_bag" (defArgs st_l_bag) (defBody st_l_bag) (defScope st_l_bag) [] [] (He.ga K "_law_bag") fd
  d_l_take : ∃ fd, FunD K "_law_take" "_law_take" (defArgs st_l_take) (defBody st_l_take) (defScope st_l_take) [] [] (He.ga K "_law_take") fd
  d_l_names : ∃ fd, FunD K "_law_names" "_law_names" (defArgs st_l_names) (defBody st_l_names) (defScope st_l_names) [] [] (He.ga K "_law_names") fd
  d_l_signs : ∃ fd, FunD K "_law_signs" "_law_signs" (defArgs st_l_signs) (defBody st_l_signs) (defScope st_l_signs) [] [] (He.ga K "_law_signs") fd
  d_l_words : ∃ fd, FunD K "_law_words" "_law_words" (defArgs st_l_words) (defBody st_l_words) (defScope st_l_words) [] [] (He.ga K "_law_words") fd
  d_l_room : ∃ fd, FunD K "_law_room" "_law_room" (defArgs st_l_room) (defBody st_l_room) (defScope st_l_room) [] [] (He.ga K "_law_room") fd
  d_l_one : ∃ fd, FunD K "_law_one" "_law_one" (defArgs st_l_one) (defBody st_l_one) (defScope st_l_one) [] [] (He.ga K "_law_one") fd
  d_l_operand : ∃ fd, FunD K "_law_operand" "_law_operand" (defArgs st_l_operand) (defBody st_l_operand) (defScope st_l_operand) [] [] (He.ga K "_law_operand") fd
  d_l_value : ∃ fd, FunD K "_law_value" "_law_value" (defArgs st_l_value) (defBody st_l_value) (defScope st_l_value) [] [] (He.ga K "_law_value") fd
  d_l_place : ∃ fd, FunD K "_law_place" "_law_place" (defArgs st_l_place) (defBody st_l_place) (defScope st_l_place) [] [] (He.ga K "_law_place") fd
  d_l_row : ∃ fd, FunD K "_law_row" "_law_row" (defArgs st_l_row) (defBody st_l_row) (defScope st_l_row) [] [] (He.ga K "_law_row") fd
  d_l_rows : ∃ fd, FunD K "_law_rows" "_law_rows" (defArgs st_l_rows) (defBody st_l_rows) (defScope st_l_rows) [] [] (He.ga K "_law_rows") fd
  d_l_choices : ∃ fd, FunD K "_law_choices" "_law_choices" (defArgs st_l_choices) (defBody st_l_choices) (defScope st_l_choices) [] [] (He.ga K "_law_choices") fd
  d_Builder_init : ∃ fd, FunD K "__init__" "Builder.__init__" (defArgs st_Builder_init) (defBody st_Builder_init) (defScope st_Builder_init) [] [] (He.ma K (He.ga K "Builder") "__init__") fd
  d_Builder_fresh : ∃ fd, FunD K "fresh" "Builder.fresh" (defArgs st_Builder_fresh) (defBody st_Builder_fresh) (defScope st_Builder_fresh) [] [] (He.ma K (He.ga K "Builder") "fresh") fd
  d_Builder_call : ∃ fd, FunD K "call" "Builder.call" (defArgs st_Builder_call) (defBody st_Builder_call) (defScope st_Builder_call) [] [] (He.ma K (He.ga K "Builder") "call") fd
  d_Builder_read : ∃ fd, FunD K "read" "Builder.read" (defArgs st_Builder_read) (defBody st_Builder_read) (defScope st_Builder_read) [] [] (He.ma K (He.ga K "Builder") "read") fd
  d_Builder_get_cell : ∃ fd, FunD K "get_cell" "Builder.get_cell" (defArgs st_Builder_get_cell) (defBody st_Builder_get_cell) (defScope st_Builder_get_cell) [] [] (He.ma K (He.ga K "Builder") "get_cell") fd
  d_Builder_read_place : ∃ fd, FunD K "read_place" "Builder.read_place" (defArgs st_Builder_read_place) (defBody st_Builder_read_place) (defScope st_Builder_read_place) [] [] (He.ma K (He.ga K "Builder") "read_place") fd
  d_Builder_in_parts : ∃ fd, FunD K "in_parts" "Builder.in_parts" (defArgs st_Builder_in_parts) (defBody st_Builder_in_parts) (defScope st_Builder_in_parts) [] [] (He.ma K (He.ga K "Builder") "in_parts") fd
  d_Builder_work_all : ∃ fd, FunD K "work_all" "Builder.work_all" (defArgs st_Builder_work_all) (defBody st_Builder_work_all) (defScope st_Builder_work_all) [] [] (He.ma K (He.ga K "Builder") "work_all") fd
  d_Builder_find_place : ∃ fd, FunD K "find_place" "Builder.find_place" (defArgs st_Builder_find_place) (defBody st_Builder_find_place) (defScope st_Builder_find_place) [] [] (He.ma K (He.ga K "Builder") "find_place") fd
  d_Builder_work : ∃ fd, FunD K "work" "Builder.work" (defArgs st_Builder_work) (defBody st_Builder_work) (defScope st_Builder_work) [] [] (He.ma K (He.ga K "Builder") "work") fd
  d_Builder_write_place : ∃ fd, FunD K "write_place" "Builder.write_place" (defArgs st_Builder_write_place) (defBody st_Builder_write_place) (defScope st_Builder_write_place) [] [] (He.ma K (He.ga K "Builder") "write_place") fd
  d_build_set : ∃ fd, FunD K "build_set" "build_set" (defArgs st_build_set) (defBody st_build_set) (defScope st_build_set) [] [] (He.ga K "build_set") fd
  d_build_add : ∃ fd, FunD K "build_add" "build_add" (defArgs st_build_add) (defBody st_build_add) (defScope st_build_add) [] [] (He.ga K "build_add") fd
  d_build_rows : ∃ fd, FunD K "build_rows" "build_rows" (defArgs st_build_rows) (defBody st_build_rows) (defScope st_build_rows) [] [] (He.ga K "build_rows") fd
  d_Program_rows : ∃ fd, FunD K "rows" "Program.rows" (defArgs st_Program_rows) (defBody st_Program_rows) (defScope st_Program_rows) [] [] (He.ma K (He.ga K "Program") "rows") fd
  d_steps : ∃ fd, FunD K "steps" "steps" (defArgs st_steps) (defBody st_steps) (defScope st_steps) [] [] (He.ga K "steps") fd
  d_Language_call : ∃ fd, FunD K "__call__" "Language.__call__" (defArgs st_Language_call) (defBody st_Language_call) (defScope st_Language_call) [] [] (He.ma K (He.ga K "Language") "__call__") fd
  d_l_order : ∃ fd, FunD K "_law_order" "_law_order" (defArgs st_l_order) (defBody st_l_order) (defScope st_l_order) [] [] (He.ga K "_law_order") fd
  d_l_box : ∃ fd, FunD K "_law_box" "_law_box" (defArgs st_l_box) (defBody st_l_box) (defScope st_l_box) [] [] (He.ga K "_law_box") fd
  d_l_call : ∃ fd, FunD K "_law_call" "_law_call" (defArgs st_l_call) (defBody st_l_call) (defScope st_l_call) [] [] (He.ga K "_law_call") fd
  d_l_work : ∃ fd, FunD K "_law_work" "_law_work" (defArgs st_l_work) (defBody st_l_work) (defScope st_l_work) [] [] (He.ga K "_law_work") fd
  d_l_work_all : ∃ fd, FunD K "_law_work_all" "_law_work_all" (defArgs st_l_work_all) (defBody st_l_work_all) (defScope st_l_work_all) [] [] (He.ga K "_law_work_all") fd
  d_l_find : ∃ fd, FunD K "_law_find" "_law_find" (defArgs st_l_find) (defBody st_l_find) (defScope st_l_find) [] [] (He.ga K "_law_find") fd
  d_l_store : ∃ fd, FunD K "_law_store" "_law_store" (defArgs st_l_store) (defBody st_l_store) (defScope st_l_store) [] [] (He.ga K "_law_store") fd
  d_l_do_set : ∃ fd, FunD K "_law_do_set" "_law_do_set" (defArgs st_l_do_set) (defBody st_l_do_set) (defScope st_l_do_set) [] [] (He.ga K "_law_do_set") fd
  d_l_look : ∃ fd, FunD K "_law_look" "_law_look" (defArgs st_l_look) (defBody st_l_look) (defScope st_l_look) [] [] (He.ga K "_law_look") fd
  d_l_do_add : ∃ fd, FunD K "_law_do_add" "_law_do_add" (defArgs st_l_do_add) (defBody st_l_do_add) (defScope st_l_do_add) [] [] (He.ga K "_law_do_add") fd
  d_l_due : ∃ fd, FunD K "_law_due" "_law_due" (defArgs st_l_due) (defBody st_l_due) (defScope st_l_due) [] [] (He.ga K "_law_due") fd
  d_Language_init : ∃ fd, FunD K "__init__" "Language.__init__" (defArgs st_Language_init) (defBody st_Language_init) (defScope st_Language_init) [] ((dd_Language_init).kws K) (He.ma K (He.ga K "Language") "__init__") fd
  d_l_language : ∃ fd, FunD K "_law_language" "_law_language" (defArgs st_l_language) (defBody st_l_language) (defScope st_l_language) [] [] (He.ga K "_law_language") fd
  d_law : ∃ fd, FunD K "law" "law" (defArgs st_law) (defBody st_law) (defScope st_law) [] [] (He.ga K "law") fd
def Fn.ok (P : Program) (w : World) (K : PySem.W.Frag) (mg : Str → Option Value) (base : Heap) (k : Nat) : Fn → DF → Prop
  | .as_tuples, g => FD P w K mg base k "as_tuples" g
  | .values_in, g => FD P w K mg base k "values_in" g
  | .places_in, g => FD P w K mg base k "places_in" g
  | .parts_of, g => FD P w K mg base k "parts_of" g
  | .all_names, g => FD P w K mg base k "all_names" g
  | .read_in, g => FD P w K mg base k "read_in" g
  | .is_made_of, g => FD P w K mg base k "is_made_of" g
  | .is_helper, g => FD P w K mg base k "is_helper" g
  | .unset_in, g => FD P w K mg base k "unset_in" g
  | .has_form, g => FD P w K mg base k "has_form" g
  | .is_list_of, g => FD P w K mg base k "is_list_of" g
  | .is_own_name, g => FD P w K mg base k "is_own_name" g
  | .is_name, g => FD P w K mg base k "is_name" g
  | .is_word, g => FD P w K mg base k "is_word" g
  | .is_sign, g => FD P w K mg base k "is_sign" g
  | .is_expression, g => FD P w K mg base k "is_expression" g
  | .is_place, g => FD P w K mg base k "is_place" g
  | .is_many, g => FD P w K mg base k "is_many" g
  | .is_simple_row, g => FD P w K mg base k "is_simple_row" g
  | .is_any, g => FD P w K mg base k "is_any" g
  | .is_operand, g => FD P w K mg base k "is_operand" g
  | .blocks_of, g => FD P w K mg base k "blocks_of" g
  | .fault_in, g => FD P w K mg base k "fault_in" g
  | .first_fault, g => FD P w K mg base k "first_fault" g
  | .helper_number, g => FD P w K mg base k "helper_number" g
  | .Program_init, g => FI P w K mg base k "Program" (InB "Program.__init__" st_Program_init ["self", "rows"] (fun K => []) (fun K => [])) g
  | .l_bag, g => FD P w K mg base k "_law_bag" g
  | .l_take, g => FD P w K mg base k "_law_take" g
  | .l_names, g => FD P w K mg base k "_law_names" g
  | .l_signs, g => FD P w K mg base k "_law_signs" g
  | .l_words, g => FD P w K mg base k "_law_words" g
  | .l_room, g => FD P w K mg base k "_law_room" g
  | .l_one, g => FD P w K mg base k "_law_one" g
  | .l_operand, g => FD P w K mg base k "_law_operand" g
  | .l_value, g => FD P w K mg base k "_law_value" g
  | .l_place, g => FD P w K mg base k "_law_place" g
  | .l_row, g => FD P w K mg base k "_law_row" g
  | .l_rows, g => FD P w K mg base k "_law_rows" g
  | .l_choices, g => FD P w K mg base k "_law_choices" g
  | .Builder_init, g => FI P w K mg base k "Builder" (InB "Builder.__init__" st_Builder_init ["self", "language"] (fun K => []) (fun K => [])) g
  | .Builder_fresh, g => FM P w K mg base k "Builder" "fresh" [] g
  | .Builder_call, g => FM P w K mg base k "Builder" "call" [] g
  | .Builder_read, g => FM P w K mg base k "Builder" "read" [] g
  | .Builder_get_cell, g => FM P w K mg base k "Builder" "get_cell" [] g
  | .Builder_read_place, g => FM P w K mg base k "Builder" "read_place" [] g
  | .Builder_in_parts, g => FM P w K mg base k "Builder" "in_parts" [] g
  | .Builder_work_all, g => FM P w K mg base k "Builder" "work_all" [] g
  | .Builder_find_place, g => FM P w K mg base k "Builder" "find_place" [] g
  | .Builder_work, g => FM P w K mg base k "Builder" "work" [] g
  | .Builder_write_place, g => FM P w K mg base k "Builder" "write_place" [] g
  | .build_set, g => FD P w K mg base k "build_set" g
  | .build_add, g => FD P w K mg base k "build_add" g
  | .build_rows, g => FD P w K mg base k "build_rows" g
  | .Program_rows, g => FM P w K mg base k "Program" "rows" [] g
  | .steps, g => FD P w K mg base k "steps" g
  | .Language_call, g => FM P w K mg base k "Language" "__call__" [] g
  | .l_order, g => FD P w K mg base k "_law_order" g
  | .l_box, g => FD P w K mg base k "_law_box" g
  | .l_call, g => FD P w K mg base k "_law_call" g
  | .l_work, g => FD P w K mg base k "_law_work" g
  | .l_work_all, g => FD P w K mg base k "_law_work_all" g
  | .l_find, g => FD P w K mg base k "_law_find" g
  | .l_store, g => FD P w K mg base k "_law_store" g
  | .l_do_set, g => FD P w K mg base k "_law_do_set" g
  | .l_look, g => FD P w K mg base k "_law_look" g
  | .l_do_add, g => FD P w K mg base k "_law_do_add" g
  | .l_due, g => FD P w K mg base k "_law_due" g
  | .Language_init, g => FI P w K mg base k "Language" (InB "Language.__init__" st_Language_init ["self", "parts", "single", "many", "adding", "stores", "exchanging"] (fun K => []) (fun K => (dd_Language_init).kws K)) g
  | .l_language, g => FD P w K mg base k "_law_language" g
  | .law, g => FD P w K mg base k "law" g
def OkC (P : Program) (w : World) (K : PySem.W.Frag) (mg : Str → Option Value) (base : Heap) (k : Nat) (c : Fn → DF) : Prop := ∀ f, Fn.ok P w K mg base k f (c f)
theorem okf_as_tuples {P : Program} {w : World} {K : PySem.W.Frag} {mg : Str → Option Value} {base : Heap} {k : Nat} {c : Fn → DF} (ih : OkC P w K mg base k c) : FD P w K mg base k "as_tuples" (c .as_tuples) := ih .as_tuples
theorem okf_values_in {P : Program} {w : World} {K : PySem.W.Frag} {mg : Str → Option Value} {base : Heap} {k : Nat} {c : Fn → DF} (ih : OkC P w K mg base k c) : FD P w K mg base k "values_in" (c .values_in) := ih .values_in
theorem okf_places_in {P : Program} {w : World} {K : PySem.W.Frag} {mg : Str → Option Value} {base : Heap} {k : Nat} {c : Fn → DF} (ih : OkC P w K mg base k c) : FD P w K mg base k "places_in" (c .places_in) := ih .places_in
theorem okf_parts_of {P : Program} {w : World} {K : PySem.W.Frag} {mg : Str → Option Value} {base : Heap} {k : Nat} {c : Fn → DF} (ih : OkC P w K mg base k c) : FD P w K mg base k "parts_of" (c .parts_of) := ih .parts_of
theorem okf_all_names {P : Program} {w : World} {K : PySem.W.Frag} {mg : Str → Option Value} {base : Heap} {k : Nat} {c : Fn → DF} (ih : OkC P w K mg base k c) : FD P w K mg base k "all_names" (c .all_names) := ih .all_names
theorem okf_read_in {P : Program} {w : World} {K : PySem.W.Frag} {mg : Str → Option Value} {base : Heap} {k : Nat} {c : Fn → DF} (ih : OkC P w K mg base k c) : FD P w K mg base k "read_in" (c .read_in) := ih .read_in
theorem okf_is_made_of {P : Program} {w : World} {K : PySem.W.Frag} {mg : Str → Option Value} {base : Heap} {k : Nat} {c : Fn → DF} (ih : OkC P w K mg base k c) : FD P w K mg base k "is_made_of" (c .is_made_of) := ih .is_made_of
theorem okf_is_helper {P : Program} {w : World} {K : PySem.W.Frag} {mg : Str → Option Value} {base : Heap} {k : Nat} {c : Fn → DF} (ih : OkC P w K mg base k c) : FD P w K mg base k "is_helper" (c .is_helper) := ih .is_helper
theorem okf_unset_in {P : Program} {w : World} {K : PySem.W.Frag} {mg : Str → Option Value} {base : Heap} {k : Nat} {c : Fn → DF} (ih : OkC P w K mg base k c) : FD P w K mg base k "unset_in" (c .unset_in) := ih .unset_in
theorem okf_has_form {P : Program} {w : World} {K : PySem.W.Frag} {mg : Str → Option Value} {base : Heap} {k : Nat} {c : Fn → DF} (ih : OkC P w K mg base k c) : FD P w K mg base k "has_form" (c .has_form) := ih .has_form
theorem okf_is_list_of {P : Program} {w : World} {K : PySem.W.Frag} {mg : Str → Option Value} {base : Heap} {k : Nat} {c : Fn → DF} (ih : OkC P w K mg base k c) : FD P w K mg base k "is_list_of" (c .is_list_of) := ih .is_list_of
theorem okf_is_own_name {P : Program} {w : World} {K : PySem.W.Frag} {mg : Str → Option Value} {base : Heap} {k : Nat} {c : Fn → DF} (ih : OkC P w K mg base k c) : FD P w K mg base k "is_own_name" (c .is_own_name) := ih .is_own_name
theorem okf_is_name {P : Program} {w : World} {K : PySem.W.Frag} {mg : Str → Option Value} {base : Heap} {k : Nat} {c : Fn → DF} (ih : OkC P w K mg base k c) : FD P w K mg base k "is_name" (c .is_name) := ih .is_name
theorem okf_is_word {P : Program} {w : World} {K : PySem.W.Frag} {mg : Str → Option Value} {base : Heap} {k : Nat} {c : Fn → DF} (ih : OkC P w K mg base k c) : FD P w K mg base k "is_word" (c .is_word) := ih .is_word
theorem okf_is_sign {P : Program} {w : World} {K : PySem.W.Frag} {mg : Str → Option Value} {base : Heap} {k : Nat} {c : Fn → DF} (ih : OkC P w K mg base k c) : FD P w K mg base k "is_sign" (c .is_sign) := ih .is_sign
theorem okf_is_expression {P : Program} {w : World} {K : PySem.W.Frag} {mg : Str → Option Value} {base : Heap} {k : Nat} {c : Fn → DF} (ih : OkC P w K mg base k c) : FD P w K mg base k "is_expression" (c .is_expression) := ih .is_expression
theorem okf_is_place {P : Program} {w : World} {K : PySem.W.Frag} {mg : Str → Option Value} {base : Heap} {k : Nat} {c : Fn → DF} (ih : OkC P w K mg base k c) : FD P w K mg base k "is_place" (c .is_place) := ih .is_place
theorem okf_is_many {P : Program} {w : World} {K : PySem.W.Frag} {mg : Str → Option Value} {base : Heap} {k : Nat} {c : Fn → DF} (ih : OkC P w K mg base k c) : FD P w K mg base k "is_many" (c .is_many) := ih .is_many
theorem okf_is_simple_row {P : Program} {w : World} {K : PySem.W.Frag} {mg : Str → Option Value} {base : Heap} {k : Nat} {c : Fn → DF} (ih : OkC P w K mg base k c) : FD P w K mg base k "is_simple_row" (c .is_simple_row) := ih .is_simple_row
theorem okf_blocks_of {P : Program} {w : World} {K : PySem.W.Frag} {mg : Str → Option Value} {base : Heap} {k : Nat} {c : Fn → DF} (ih : OkC P w K mg base k c) : FD P w K mg base k "blocks_of" (c .blocks_of) := ih .blocks_of
theorem okf_fault_in {P : Program} {w : World} {K : PySem.W.Frag} {mg : Str → Option Value} {base : Heap} {k : Nat} {c : Fn → DF} (ih : OkC P w K mg base k c) : FD P w K mg base k "fault_in" (c .fault_in) := ih .fault_in
theorem okf_first_fault {P : Program} {w : World} {K : PySem.W.Frag} {mg : Str → Option Value} {base : Heap} {k : Nat} {c : Fn → DF} (ih : OkC P w K mg base k c) : FD P w K mg base k "first_fault" (c .first_fault) := ih .first_fault
theorem okf_Program_init {P : Program} {w : World} {K : PySem.W.Frag} {mg : Str → Option Value} {base : Heap} {k : Nat} {c : Fn → DF} (ih : OkC P w K mg base k c) : FI P w K mg base k "Program" (InB "Program.__init__" st_Program_init ["self", "rows"] (fun K => []) (fun K => [])) (c .Program_init) := ih .Program_init
theorem okf_l_bag {P : Program} {w : World} {K : PySem.W.Frag} {mg : Str → Option Value} {base : Heap} {k : Nat} {c : Fn → DF} (ih : OkC P w K mg base k c) : FD P w K mg base k "_law_bag" (c .l_bag) := ih .l_bag
theorem okf_l_take {P : Program} {w : World} {K : PySem.W.Frag} {mg : Str → Option Value} {base : Heap} {k : Nat} {c : Fn → DF} (ih : OkC P w K mg base k c) : FD P w K mg base k "_law_take" (c .l_take) := ih .l_take
theorem okf_l_names {P : Program} {w : World} {K : PySem.W.Frag} {mg : Str → Option Value} {base : Heap} {k : Nat} {c : Fn → DF} (ih : OkC P w K mg base k c) : FD P w K mg base k "_law_names" (c .l_names) := ih .l_names
theorem okf_l_signs {P : Program} {w : World} {K : PySem.W.Frag} {mg : Str → Option Value} {base : Heap} {k : Nat} {c : Fn → DF} (ih : OkC P w K mg base k c) : FD P w K mg base k "_law_signs" (c .l_signs) := ih .l_signs
theorem okf_l_words {P : Program} {w : World} {K : PySem.W.Frag} {mg : Str → Option Value} {base : Heap} {k : Nat} {c : Fn → DF} (ih : OkC P w K mg base k c) : FD P w K mg base k "_law_words" (c .l_words) := ih .l_words
theorem okf_l_room {P : Program} {w : World} {K : PySem.W.Frag} {mg : Str → Option Value} {base : Heap} {k : Nat} {c : Fn → DF} (ih : OkC P w K mg base k c) : FD P w K mg base k "_law_room" (c .l_room) := ih .l_room
theorem okf_l_one {P : Program} {w : World} {K : PySem.W.Frag} {mg : Str → Option Value} {base : Heap} {k : Nat} {c : Fn → DF} (ih : OkC P w K mg base k c) : FD P w K mg base k "_law_one" (c .l_one) := ih .l_one
theorem okf_l_operand {P : Program} {w : World} {K : PySem.W.Frag} {mg : Str → Option Value} {base : Heap} {k : Nat} {c : Fn → DF} (ih : OkC P w K mg base k c) : FD P w K mg base k "_law_operand" (c .l_operand) := ih .l_operand
theorem okf_l_value {P : Program} {w : World} {K : PySem.W.Frag} {mg : Str → Option Value} {base : Heap} {k : Nat} {c : Fn → DF} (ih : OkC P w K mg base k c) : FD P w K mg base k "_law_value" (c .l_value) := ih .l_value
theorem okf_l_place {P : Program} {w : World} {K : PySem.W.Frag} {mg : Str → Option Value} {base : Heap} {k : Nat} {c : Fn → DF} (ih : OkC P w K mg base k c) : FD P w K mg base k "_law_place" (c .l_place) := ih .l_place
theorem okf_l_row {P : Program} {w : World} {K : PySem.W.Frag} {mg : Str → Option Value} {base : Heap} {k : Nat} {c : Fn → DF} (ih : OkC P w K mg base k c) : FD P w K mg base k "_law_row" (c .l_row) := ih .l_row
theorem okf_l_rows {P : Program} {w : World} {K : PySem.W.Frag} {mg : Str → Option Value} {base : Heap} {k : Nat} {c : Fn → DF} (ih : OkC P w K mg base k c) : FD P w K mg base k "_law_rows" (c .l_rows) := ih .l_rows
theorem okf_l_choices {P : Program} {w : World} {K : PySem.W.Frag} {mg : Str → Option Value} {base : Heap} {k : Nat} {c : Fn → DF} (ih : OkC P w K mg base k c) : FD P w K mg base k "_law_choices" (c .l_choices) := ih .l_choices
theorem okf_Builder_init {P : Program} {w : World} {K : PySem.W.Frag} {mg : Str → Option Value} {base : Heap} {k : Nat} {c : Fn → DF} (ih : OkC P w K mg base k c) : FI P w K mg base k "Builder" (InB "Builder.__init__" st_Builder_init ["self", "language"] (fun K => []) (fun K => [])) (c .Builder_init) := ih .Builder_init
theorem okf_Builder_fresh {P : Program} {w : World} {K : PySem.W.Frag} {mg : Str → Option Value} {base : Heap} {k : Nat} {c : Fn → DF} (ih : OkC P w K mg base k c) : FM P w K mg base k "Builder" "fresh" [] (c .Builder_fresh) := ih .Builder_fresh
theorem okf_Builder_call {P : Program} {w : World} {K : PySem.W.Frag} {mg : Str → Option Value} {base : Heap} {k : Nat} {c : Fn → DF} (ih : OkC P w K mg base k c) : FM P w K mg base k "Builder" "call" [] (c .Builder_call) := ih .Builder_call
theorem okf_Builder_read {P : Program} {w : World} {K : PySem.W.Frag} {mg : Str → Option Value} {base : Heap} {k : Nat} {c : Fn → DF} (ih : OkC P w K mg base k c) : FM P w K mg base k "Builder" "read" [] (c .Builder_read) := ih .Builder_read
theorem okf_Builder_get_cell {P : Program} {w : World} {K : PySem.W.Frag} {mg : Str → Option Value} {base : Heap} {k : Nat} {c : Fn → DF} (ih : OkC P w K mg base k c) : FM P w K mg base k "Builder" "get_cell" [] (c .Builder_get_cell) := ih .Builder_get_cell
theorem okf_Builder_read_place {P : Program} {w : World} {K : PySem.W.Frag} {mg : Str → Option Value} {base : Heap} {k : Nat} {c : Fn → DF} (ih : OkC P w K mg base k c) : FM P w K mg base k "Builder" "read_place" [] (c .Builder_read_place) := ih .Builder_read_place
theorem okf_Builder_in_parts {P : Program} {w : World} {K : PySem.W.Frag} {mg : Str → Option Value} {base : Heap} {k : Nat} {c : Fn → DF} (ih : OkC P w K mg base k c) : FM P w K mg base k "Builder" "in_parts" [] (c .Builder_in_parts) := ih .Builder_in_parts
theorem okf_Builder_work_all {P : Program} {w : World} {K : PySem.W.Frag} {mg : Str → Option Value} {base : Heap} {k : Nat} {c : Fn → DF} (ih : OkC P w K mg base k c) : FM P w K mg base k "Builder" "work_all" [] (c .Builder_work_all) := ih .Builder_work_all
theorem okf_Builder_find_place {P : Program} {w : World} {K : PySem.W.Frag} {mg : Str → Option Value} {base : Heap} {k : Nat} {c : Fn → DF} (ih : OkC P w K mg base k c) : FM P w K mg base k "Builder" "find_place" [] (c .Builder_find_place) := ih .Builder_find_place
theorem okf_Builder_work {P : Program} {w : World} {K : PySem.W.Frag} {mg : Str → Option Value} {base : Heap} {k : Nat} {c : Fn → DF} (ih : OkC P w K mg base k c) : FM P w K mg base k "Builder" "work" [] (c .Builder_work) := ih .Builder_work
theorem okf_Builder_write_place {P : Program} {w : World} {K : PySem.W.Frag} {mg : Str → Option Value} {base : Heap} {k : Nat} {c : Fn → DF} (ih : OkC P w K mg base k c) : FM P w K mg base k "Builder" "write_place" [] (c .Builder_write_place) := ih .Builder_write_place
theorem okf_build_set {P : Program} {w : World} {K : PySem.W.Frag} {mg : Str → Option Value} {base : Heap} {k : Nat} {c : Fn → DF} (ih : OkC P w K mg base k c) : FD P w K mg base k "build_set" (c .build_set) := ih .build_set
theorem okf_build_add {P : Program} {w : World} {K : PySem.W.Frag} {mg : Str → Option Value} {base : Heap} {k : Nat} {c : Fn → DF} (ih : OkC P w K mg base k c) : FD P w K mg base k "build_add" (c .build_add) := ih .build_add
theorem okf_build_rows {P : Program} {w : World} {K : PySem.W.Frag} {mg : Str → Option Value} {base : Heap} {k : Nat} {c : Fn → DF} (ih : OkC P w K mg base k c) : FD P w K mg base k "build_rows" (c .build_rows) := ih .build_rows
theorem okf_Program_rows {P : Program} {w : World} {K : PySem.W.Frag} {mg : Str → Option Value} {base : Heap} {k : Nat} {c : Fn → DF} (ih : OkC P w K mg base k c) : FM P w K mg base k "Program" "rows" [] (c .Program_rows) := ih .Program_rows
theorem okf_steps {P : Program} {w : World} {K : PySem.W.Frag} {mg : Str → Option Value} {base : Heap} {k : Nat} {c : Fn → DF} (ih : OkC P w K mg base k c) : FD P w K mg base k "steps" (c .steps) := ih .steps
theorem okf_Language_call {P : Program} {w : World} {K : PySem.W.Frag} {mg : Str → Option Value} {base : Heap} {k : Nat} {c : Fn → DF} (ih : OkC P w K mg base k c) : FM P w K mg base k "Language" "__call__" [] (c .Language_call) := ih .Language_call
theorem okf_l_order {P : Program} {w : World} {K : PySem.W.Frag} {mg : Str → Option Value} {base : Heap} {k : Nat} {c : Fn → DF} (ih : OkC P w K mg base k c) : FD P w K mg base k "_law_order" (c .l_order) := ih .l_order
theorem okf_l_box {P : Program} {w : World} {K : PySem.W.Frag} {mg : Str → Option Value} {base : Heap} {k : Nat} {c : Fn → DF} (ih : OkC P w K mg base k c) : FD P w K mg base k "_law_box" (c .l_box) := ih .l_box
theorem okf_l_call {P : Program} {w : World} {K : PySem.W.Frag} {mg : Str → Option Value} {base : Heap} {k : Nat} {c : Fn → DF} (ih : OkC P w K mg base k c) : FD P w K mg base k "_law_call" (c .l_call) := ih .l_call
theorem okf_l_work {P : Program} {w : World} {K : PySem.W.Frag} {mg : Str → Option Value} {base : Heap} {k : Nat} {c : Fn → DF} (ih : OkC P w K mg base k c) : FD P w K mg base k "_law_work" (c .l_work) := ih .l_work
theorem okf_l_work_all {P : Program} {w : World} {K : PySem.W.Frag} {mg : Str → Option Value} {base : Heap} {k : Nat} {c : Fn → DF} (ih : OkC P w K mg base k c) : FD P w K mg base k "_law_work_all" (c .l_work_all) := ih .l_work_all
theorem okf_l_find {P : Program} {w : World} {K : PySem.W.Frag} {mg : Str → Option Value} {base : Heap} {k : Nat} {c : Fn → DF} (ih : OkC P w K mg base k c) : FD P w K mg base k "_law_find" (c .l_find) := ih .l_find
theorem okf_l_store {P : Program} {w : World} {K : PySem.W.Frag} {mg : Str → Option Value} {base : Heap} {k : Nat} {c : Fn → DF} (ih : OkC P w K mg base k c) : FD P w K mg base k "_law_store" (c .l_store) := ih .l_store
theorem okf_l_do_set {P : Program} {w : World} {K : PySem.W.Frag} {mg : Str → Option Value} {base : Heap} {k : Nat} {c : Fn → DF} (ih : OkC P w K mg base k c) : FD P w K mg base k "_law_do_set" (c .l_do_set) := ih .l_do_set
theorem okf_l_look {P : Program} {w : World} {K : PySem.W.Frag} {mg : Str → Option Value} {base : Heap} {k : Nat} {c : Fn → DF} (ih : OkC P w K mg base k c) : FD P w K mg base k "_law_look" (c .l_look) := ih .l_look
theorem okf_l_do_add {P : Program} {w : World} {K : PySem.W.Frag} {mg : Str → Option Value} {base : Heap} {k : Nat} {c : Fn → DF} (ih : OkC P w K mg base k c) : FD P w K mg base k "_law_do_add" (c .l_do_add) := ih .l_do_add
theorem okf_l_due {P : Program} {w : World} {K : PySem.W.Frag} {mg : Str → Option Value} {base : Heap} {k : Nat} {c : Fn → DF} (ih : OkC P w K mg base k c) : FD P w K mg base k "_law_due" (c .l_due) := ih .l_due
theorem okf_Language_init {P : Program} {w : World} {K : PySem.W.Frag} {mg : Str → Option Value} {base : Heap} {k : Nat} {c : Fn → DF} (ih : OkC P w K mg base k c) : FI P w K mg base k "Language" (InB "Language.__init__" st_Language_init ["self", "parts", "single", "many", "adding", "stores", "exchanging"] (fun K => []) (fun K => (dd_Language_init).kws K)) (c .Language_init) := ih .Language_init
theorem okf_l_language {P : Program} {w : World} {K : PySem.W.Frag} {mg : Str → Option Value} {base : Heap} {k : Nat} {c : Fn → DF} (ih : OkC P w K mg base k c) : FD P w K mg base k "_law_language" (c .l_language) := ih .l_language
theorem tb_ok {P : Program} {w : World} {K : PySem.W.Frag} {mg : Str → Option Value} {base : Heap} {k : Nat} {c : Fn → DF} (ih : OkC P w K mg base k c) : ∀ y g, tbOf c tbl y = some g → FD P w K mg base k y g := tbOf_ok (R := fun y g => FD P w K mg base k y g) fun q hq => by
  simp only [tbl, List.mem_cons, List.not_mem_nil, or_false] at hq
  rcases hq with rfl | rfl | rfl | rfl
  · exact ih .is_expression
  · exact ih .is_place
  · exact ih .is_any
  · exact ih .is_operand
theorem kb_Language_0 (K : PySem.W.Frag) : KwB K (InB "Language.__init__" st_Language_init ["self", "parts", "single", "many", "adding", "stores", "exchanging"] (fun K => []) (fun K => (dd_Language_init).kws K)) ["parts", "single", "many", "adding", "stores", "exchanging"] al_Language_0 := fun f fd ps' ⟨e, F⟩ => by
  subst e
  obtain ⟨mv, h⟩ := L2.FunD.kbinds0 (ps := ["self", "parts", "single", "many", "adding", "stores", "exchanging"]) F 1 ["parts", "single", "many", "adding", "stores", "exchanging"] [] (fun us _ ws => us ++ ws) (by intro z; cases z) (fun q hq => by cases hq) (fun r1 _ r2 => r1.append r2) (fun D doc pm an cdv ct us mv ws h1 h2 h3 => match us, mv, ws, h1, h2, h3 with | [_], [], [_, _, _, _, _, _], _, _, _ => rfl)
  exact ⟨_, _, h, fun x zs l L io H hl r => ⟨zs, rfl, r⟩⟩
theorem pb_Builder_1 (K : PySem.W.Frag) : PoB K (InB "Builder.__init__" st_Builder_init ["self", "language"] (fun K => []) (fun K => [])) dl_Builder_1 := pob0 bi_Builder_init
theorem pb_Program_1 (K : PySem.W.Frag) : PoB K (InB "Program.__init__" st_Program_init ["self", "rows"] (fun K => []) (fun K => [])) dl_Program_1 := pob0 bi_Program_init
section
variable {P : Program} {w : World} {K : PySem.W.Frag} {mg : Str → Option Value} {base : Heap} {k : Nat} {c : Fn → DF}
theorem fd_as_tuples (T : Tx K w mg) (hs : SysB base) (ih : OkC P w K mg base k c) : FD P w K mg base (k + 2) "as_tuples" (g_as_tuples c) :=
  fd_mk T.d_as_tuples T.g_as_tuples sc_as_tuples bi_as_tuples rfl rfl fun cdv A up s H E hr tk pw =>
    (qss_cons (qs_if (qt_tru (qx (qe_callB call_isiA cas_isi T.f_isinstance (by decide +kernel) (qxs_cons (qx (qe_var 0)) (qxs_cons (qx (qe_tup (qa_cons (qe_ty T.f_tuple (by decide +kernel)) (qa_cons (qe_ty T.f_list (by decide +kernel)) qa_nil)))) qxs_nil))))) (qss_one (qs_ret (qe_callTy call_tuple_of cas_tuple T.f_tuple (by decide +kernel) (qxs_cons (qx (qe_frz (qf_lc (own := [("member", 1)]) rfl sc_as_tuples.nd (qi_seq (qe_var 0)) (blkOk_by (own := [("member", 1)]) (N := ["thing", "member"]) (sc := defScope st_as_tuples) (by decide +kernel)) (fun _ _ _ _ _ => (qg_name sc_as_tuples.nd 1)) (fun _ _ _ _ _ => qts_nil) (fun _ _ _ _ _ => (qe_call (okf_as_tuples ih) hr takesW0 (qa_cons (qe_var 1) qa_nil)))))) qxs_nil)))) qss_nil) (qss_one (qs_ret (qe_var 0))))
theorem fd_values_in (T : Tx K w mg) (hs : SysB base) (ih : OkC P w K mg base k c) : FD P w K mg base (k + 2) "values_in" (g_values_in c) :=
  fd_mk T.d_values_in T.g_values_in sc_values_in bi_values_in rfl rfl fun cdv A up s H E hr tk pw =>
    (qss_cons (qs_if (qt_eq hr.r (qx (qe_ix (qx (qe_var 0)) (qx qe_int))) (qx qe_str)) (qss_one (qs_ret (qe_tup (qa_cons (qe_ix (qx (qe_var 0)) (qx qe_int)) qa_nil)))) qss_nil) (qss_cons (qs_if (qt_in (qx (qe_ix (qx (qe_var 0)) (qx qe_int))) (qx (qe_tup (qa_cons qe_str (qa_cons qe_str (qa_cons qe_str qa_nil)))))) (qss_one (qs_ret (qe_tup (qa_cons (qe_ix (qx (qe_var 0)) (qx qe_int)) qa_nil)))) qss_nil) (qss_cons (qs_if (qt_eq hr.r (qx (qe_ix (qx (qe_var 0)) (qx qe_int))) (qx qe_str)) (qss_one (qs_ret (qe_ix (qx (qe_var 0)) (qx qe_int)))) qss_nil) (qss_cons (qs_if (qt_eq hr.r (qx (qe_ix (qx (qe_var 0)) (qx qe_int))) (qx qe_str)) (qss_one (qs_ret (qe_tup qa_nil))) qss_nil) (qss_one (qs_ret (qe_ix (qx (qe_var 0)) (qx qe_int))))))))
theorem fd_places_in (T : Tx K w mg) (hs : SysB base) (ih : OkC P w K mg base k c) : FD P w K mg base (k + 2) "places_in" (g_places_in c) :=
  fd_mk T.d_places_in T.g_places_in sc_places_in bi_places_in rfl rfl fun cdv A up s H E hr tk pw =>
    (qss_cons (qs_if (qt_in (qx (qe_ix (qx (qe_var 0)) (qx qe_int))) (qx (qe_tup (qa_cons qe_str (qa_cons qe_str qa_nil))))) (qss_one (qs_ret (qe_tup (qa_cons (qe_ix (qx (qe_var 0)) (qx qe_int)) qa_nil)))) qss_nil) (qss_cons (qs_if (qt_eq hr.r (qx (qe_ix (qx (qe_var 0)) (qx qe_int))) (qx qe_str)) (qss_one (qs_ret (qe_cut (qx (qe_var 0)) (qo_some qe_int) qo_none))) qss_nil) (qss_cons (qs_if (qt_in (qx (qe_ix (qx (qe_var 0)) (qx qe_int))) (qx (qe_tup (qa_cons qe_str (qa_cons qe_str qa_nil))))) (qss_one (qs_ret (qe_ix (qx (qe_var 0)) (qx qe_int)))) qss_nil) (qss_one (qs_ret (qe_tup qa_nil))))))
theorem fd_parts_of (T : Tx K w mg) (hs : SysB base) (ih : OkC P w K mg base k c) : FD P w K mg base (k + 2) "parts_of" (g_parts_of c) :=
  fd_mk T.d_parts_of T.g_parts_of sc_parts_of bi_parts_of rfl rfl fun cdv A up s H E hr tk pw =>
    (qss_cons (qs_if (qt_eq hr.r (qx (qe_ix (qx (qe_var 0)) (qx qe_int))) (qx qe_str)) (qss_one (qs_ret (qe_callTy call_tuple_of cas_tuple T.f_tuple (by decide +kernel) (qxs_cons (qx (qe_ix (qx (qe_var 0)) (qx qe_int))) qxs_nil)))) qss_nil) (qss_cons (qs_if (qt_in (qx (qe_ix (qx (qe_var 0)) (qx qe_int))) (qx (qe_tup (qa_cons qe_str (qa_cons qe_str qa_nil))))) (qss_one (qs_ret (qe_callTy call_tuple_of cas_tuple T.f_tuple (by decide +kernel) (qxs_cons (qx (qe_cut (qx (qe_var 0)) (qo_some qe_int) qo_none)) qxs_nil)))) qss_nil) (qss_one (qs_ret (qe_tup qa_nil)))))
theorem fd_all_names (T : Tx K w mg) (hs : SysB base) (ih : OkC P w K mg base k c) : FD P w K mg base (k + 2) "all_names" (g_all_names c) :=
  fd_mk T.d_all_names T.g_all_names sc_all_names bi_all_names rfl rfl fun cdv A up s H E hr tk pw =>
    (qss_cons (qs_if (qt_eq hr.r (qx (qe_ix (qx (qe_var 0)) (qx qe_int))) (qx qe_str)) (qss_one (qs_ret (qe_frz (qf_lst (qa_cons (qe_ix (qx (qe_var 0)) (qx qe_int)) qa_nil))))) qss_nil) (qss_cons (qs_ownN sc_all_names.nd 1 (qn_f (qf_lst qa_nil))) (qss_cons (qs_for pw rfl (qi_seq (qe_call (okf_parts_of ih) hr tk (qa_cons (qe_var 0) qa_nil))) (qg_name sc_all_names.nd 2) (qss_one (qs_ownM 1 PySem.F.slot_list_extend PySem.F.type_list_extend mt_extend owns_ext (qa_cons (qe_call (okf_all_names ih) hr tk (qa_cons (qe_var 2) qa_nil)) qa_nil)))) (qss_fz 1 (qss_one (qs_ret (qe_var 1)))))))
theorem fd_read_in (T : Tx K w mg) (hs : SysB base) (ih : OkC P w K mg base k c) : FD P w K mg base (k + 2) "read_in" (g_read_in c) :=
  fd_mk T.d_read_in T.g_read_in sc_read_in bi_read_in rfl rfl fun cdv A up s H E hr tk pw =>
    (qss_cons (qs_ownN sc_read_in.nd 1 (qn_f (qf_lst qa_nil))) (qss_cons (qs_for pw rfl (qi_seq (qe_call (okf_values_in ih) hr tk (qa_cons (qe_var 0) qa_nil))) (qg_name sc_read_in.nd 2) (qss_one (qs_ownM 1 PySem.F.slot_list_extend PySem.F.type_list_extend mt_extend owns_ext (qa_cons (qe_call (okf_all_names ih) hr tk (qa_cons (qe_var 2) qa_nil)) qa_nil)))) (qss_cons (qs_for pw rfl (qi_seq (qe_call (okf_places_in ih) hr tk (qa_cons (qe_var 0) qa_nil))) (qg_name sc_read_in.nd 3) (qss_one (qs_if (qt_w (qw_or (qt_ne hr.r (qx (qe_ix (qx (qe_var 3)) (qx qe_int))) (qx qe_str)) (qw_or1 (qt_in (qx (qe_ix (qx (qe_var 0)) (qx qe_int))) (qx (qe_tup (qa_cons qe_str (qa_cons qe_str qa_nil)))))))) (qss_one (qs_ownM 1 PySem.F.slot_list_extend PySem.F.type_list_extend mt_extend owns_ext (qa_cons (qe_call (okf_all_names ih) hr tk (qa_cons (qe_var 3) qa_nil)) qa_nil))) qss_nil))) (qss_fz 1 (qss_one (qs_ret (qe_var 1)))))))
theorem fd_is_made_of (T : Tx K w mg) (hs : SysB base) (ih : OkC P w K mg base k c) : FD P w K mg base (k + 2) "is_made_of" (g_is_made_of c) :=
  fd_mk T.d_is_made_of T.g_is_made_of sc_is_made_of bi_is_made_of rfl rfl fun cdv A up s H E hr tk pw =>
    (qss_cons (qs_if (qt_w (qw_or (qt_not (qt_tru (qx (qe_callB call_isiA cas_isi T.f_isinstance (by decide +kernel) (qxs_cons (qx (qe_var 0)) (qxs_cons (qx (qe_ty T.f_str (by decide +kernel))) qxs_nil)))))) (qw_or1 (qt_not (qt_chn op_lt os_lt op_le os_le (qx qe_int) (qx (qe_callB call_len cas_len T.f_len (by decide +kernel) (qxs_cons (qx (qe_var 0)) qxs_nil))) (qx qe_int)))))) (qss_one (qs_ret qe_bl)) qss_nil) (qss_cons (qs_for pw rfl (qi_seq (qe_var 0)) (qg_name sc_is_made_of.nd 2) (qss_one (qs_if (qt_ni (qx (qe_var 2)) (qx (qe_var 1))) (qss_one (qs_ret qe_bl)) qss_nil))) (qss_one (qs_ret qe_bl))))
theorem fd_is_helper (T : Tx K w mg) (hs : SysB base) (ih : OkC P w K mg base k c) : FD P w K mg base (k + 2) "is_helper" (g_is_helper c) :=
  fd_mk T.d_is_helper T.g_is_helper sc_is_helper bi_is_helper rfl rfl fun cdv A up s H E hr tk pw =>
    (qss_cons (qs_if (qt_w (qw_or (qt_not (qt_tru (qx (qe_callB call_isiA cas_isi T.f_isinstance (by decide +kernel) (qxs_cons (qx (qe_var 0)) (qxs_cons (qx (qe_ty T.f_str (by decide +kernel))) qxs_nil)))))) (qw_or (qt_not (qt_chn op_le os_le op_le os_le (qx qe_int) (qx (qe_callB call_len cas_len T.f_len (by decide +kernel) (qxs_cons (qx (qe_var 0)) qxs_nil))) (qx qe_int))) (qw_or1 (qt_ne hr.r (qx (qe_ix (qx (qe_var 0)) (qx qe_int))) (qx qe_str)))))) (qss_one (qs_ret qe_bl)) qss_nil) (qss_one (qs_ret (qe_and (qe_call (okf_is_made_of ih) hr tk (qa_cons (qe_cut (qx (qe_var 0)) (qo_some qe_int) qo_none) (qa_cons (qe_con T.c_DIGITS) qa_nil))) (qe_one (qe_ne hr.r (qx (qe_ix (qx (qe_var 0)) (qx qe_int))) (qx qe_str)))))))
theorem fd_unset_in (T : Tx K w mg) (hs : SysB base) (ih : OkC P w K mg base k c) : FD P w K mg base (k + 2) "unset_in" (g_unset_in c) :=
  fd_mk T.d_unset_in T.g_unset_in sc_unset_in bi_unset_in rfl rfl fun cdv A up s H E hr tk pw =>
    (qss_fz 1 (qss_cons (qs_ownN sc_unset_in.nd 1 (qn_d (qd_copy T.f_dict (qxs_cons (qx_any 1) qxs_nil)))) (qss_cons (qs_for pw rfl (qi_seq (qe_var 0)) (qg_name sc_unset_in.nd 3) (qss_cons (qs_for pw rfl (qi_seq (qe_call (okf_read_in ih) hr tk (qa_cons (qe_var 3) qa_nil))) (qg_name sc_unset_in.nd 4) (qss_one (qs_if (qt_w (qw_and (qt_tru (qx (qe_call (okf_is_helper ih) hr tk (qa_cons (qe_var 4) qa_nil)))) (qw_and1 (qt_dni hr.r (qx (qe_var 4)) (qx_any 1))))) (qss_one (qs_dputH hr.r (qe_var 2) (qe_var 4) qe_bl)) qss_nil))) (qss_cons (qs_for pw rfl (qi_seq (qe_call (okf_places_in ih) hr tk (qa_cons (qe_var 3) qa_nil))) (qg_name sc_unset_in.nd 5) (qss_one (qs_if (qt_eq hr.r (qx (qe_ix (qx (qe_var 5)) (qx qe_int))) (qx qe_str)) (qss_one (qs_dputO hr.r 1 (qe_ix (qx (qe_var 5)) (qx qe_int)) qe_bl)) qss_nil))) (qss_cons (qs_if (qt_eq hr.r (qx (qe_ix (qx (qe_var 3)) (qx qe_int))) (qx qe_str)) (qss_fz 1 (qss_one (qs_expr (qe_call (okf_unset_in ih) hr tk (qa_cons (qe_ix (qx (qe_var 3)) (qx qe_int)) (qa_cons (qe_var 1) (qa_cons (qe_var 2) qa_nil))))))) qss_nil) (qss_one (qs_if (qt_eq hr.r (qx (qe_ix (qx (qe_var 3)) (qx qe_int))) (qx qe_str)) (qss_fz 1 (qss_cons (qs_asg sc_unset_in.nd 6 (qe_call (okf_unset_in ih) hr tk (qa_cons (qe_ix (qx (qe_var 3)) (qx qe_int)) (qa_cons (qe_var 1) (qa_cons (qe_var 2) qa_nil))))) (qss_fz 1 (qss_cons (qs_asg sc_unset_in.nd 7 (qe_call (okf_unset_in ih) hr tk (qa_cons (qe_ix (qx (qe_var 3)) (qx qe_int)) (qa_cons (qe_var 1) (qa_cons (qe_var 2) qa_nil))))) (qss_one qs_never))))) qss_nil)))))) (qss_fz 1 (qss_one (qs_ret (qe_var 1)))))))
theorem fd_has_form (T : Tx K w mg) (hs : SysB base) (ih : OkC P w K mg base k c) : FD P w K mg base (k + 2) "has_form" (g_has_form c) :=
  fd_mk T.d_has_form T.g_has_form sc_has_form bi_has_form rfl rfl fun cdv A up s H E hr tk pw =>
    (qss_cons (qs_if (qt_w (qw_or (qt_not (qt_tru (qx (qe_callB call_isiA cas_isi T.f_isinstance (by decide +kernel) (qxs_cons (qx (qe_var 0)) (qxs_cons (qx (qe_tup (qa_cons (qe_ty T.f_tuple (by decide +kernel)) (qa_cons (qe_ty T.f_list (by decide +kernel)) qa_nil)))) qxs_nil)))))) (qw_or1 (qt_ne hr.r (qx (qe_callB call_len cas_len T.f_len (by decide +kernel) (qxs_cons (qx (qe_var 0)) qxs_nil))) (qx (qe_var 2)))))) (qss_one (qs_ret qe_bl)) qss_nil) (qss_one (qs_ret (qe_and (qe_callB call_isiA cas_isi T.f_isinstance (by decide +kernel) (qxs_cons (qx (qe_ix (qx (qe_var 0)) (qx qe_int))) (qxs_cons (qx (qe_ty T.f_str (by decide +kernel))) qxs_nil))) (qe_one (qe_eq hr.r (qx (qe_ix (qx (qe_var 0)) (qx qe_int))) (qx (qe_var 1))))))))
theorem fd_is_list_of (T : Tx K w mg) (hs : SysB base) (ih : OkC P w K mg base k c) : FD P w K mg base (k + 2) "is_list_of" (g_is_list_of c) :=
  fd_mk T.d_is_list_of T.g_is_list_of sc_is_list_of bi_is_list_of rfl rfl fun cdv A up s H E hr tk pw =>
    (qss_cons (qs_if (qt_w (qw_or (qt_not (qt_tru (qx (qe_callB call_isiA cas_isi T.f_isinstance (by decide +kernel) (qxs_cons (qx (qe_var 0)) (qxs_cons (qx (qe_tup (qa_cons (qe_ty T.f_tuple (by decide +kernel)) (qa_cons (qe_ty T.f_list (by decide +kernel)) qa_nil)))) qxs_nil)))))) (qw_or1 (qt_not (qt_chn op_le os_le op_le os_le (qx (qe_var 1)) (qx (qe_callB call_len cas_len T.f_len (by decide +kernel) (qxs_cons (qx (qe_var 0)) qxs_nil))) (qx (qe_var 2))))))) (qss_one (qs_ret qe_bl)) qss_nil) (qss_cons (qs_for pw rfl (qi_seq (qe_var 0)) (qg_name sc_is_list_of.nd 4) (qss_one (qs_if (qt_not (qt_tru (qx (qe_callL 3 (tb_ok ih) hr tk (qa_cons (qe_var 4) qa_nil))))) (qss_one (qs_ret qe_bl)) qss_nil))) (qss_one (qs_ret qe_bl))))
theorem fd_is_own_name (T : Tx K w mg) (hs : SysB base) (ih : OkC P w K mg base k c) : FD P w K mg base (k + 2) "is_own_name" (g_is_own_name c) :=
  fd_mk T.d_is_own_name T.g_is_own_name sc_is_own_name bi_is_own_name rfl rfl fun cdv A up s H E hr tk pw =>
    (qss_one (qs_ret (qe_and (qe_call (okf_is_made_of ih) hr tk (qa_cons (qe_var 0) (qa_cons (qe_con T.c_LETTERS) qa_nil))) (qe_one (qe_ni (qx (qe_var 0)) (qx (qe_con T.c_RESERVED)))))))
theorem fd_is_name (T : Tx K w mg) (hs : SysB base) (ih : OkC P w K mg base k c) : FD P w K mg base (k + 2) "is_name" (g_is_name c) :=
  fd_mk T.d_is_name T.g_is_name sc_is_name bi_is_name rfl rfl fun cdv A up s H E hr tk pw =>
    (qss_one (qs_ret (qe_or (qe_call (okf_is_own_name ih) hr tk (qa_cons (qe_var 0) qa_nil)) (qe_one (qe_call (okf_is_helper ih) hr tk (qa_cons (qe_var 0) qa_nil))))))
theorem fd_is_word (T : Tx K w mg) (hs : SysB base) (ih : OkC P w K mg base k c) : FD P w K mg base (k + 2) "is_word" (g_is_word c) :=
  fd_mk T.d_is_word T.g_is_word sc_is_word bi_is_word rfl rfl fun cdv A up s H E hr tk pw =>
    (qss_one (qs_ret (qe_call (okf_is_made_of ih) hr tk (qa_cons (qe_var 0) (qa_cons (qe_add (qx (qe_con T.c_LETTERS)) (qx (qe_con T.c_DIGITS))) qa_nil)))))
theorem fd_is_sign (T : Tx K w mg) (hs : SysB base) (ih : OkC P w K mg base k c) : FD P w K mg base (k + 2) "is_sign" (g_is_sign c) :=
  fd_mk T.d_is_sign T.g_is_sign sc_is_sign bi_is_sign rfl rfl fun cdv A up s H E hr tk pw =>
    (qss_one (qs_ret (qe_and (qe_call (okf_is_own_name ih) hr tk (qa_cons (qe_var 0) qa_nil)) (qe_one (qe_ne hr.r (qx (qe_var 0)) (qx qe_str))))))
theorem fd_is_expression (T : Tx K w mg) (hs : SysB base) (ih : OkC P w K mg base k c) : FD P w K mg base (k + 2) "is_expression" (g_is_expression c) :=
  fd_mk T.d_is_expression T.g_is_expression sc_is_expression bi_is_expression rfl rfl fun cdv A up s H E hr tk pw =>
    (qss_cons (qs_if (qt_tru (qx (qe_call (okf_has_form ih) hr tk (qa_cons (qe_var 0) (qa_cons qe_str (qa_cons qe_int qa_nil)))))) (qss_one (qs_ret (qe_call (okf_is_name ih) hr tk (qa_cons (qe_ix (qx (qe_var 0)) (qx qe_int)) qa_nil)))) qss_nil) (qss_cons (qs_if (qt_tru (qx (qe_call (okf_has_form ih) hr tk (qa_cons (qe_var 0) (qa_cons qe_str (qa_cons qe_int qa_nil)))))) (qss_one (qs_ret (qe_call (okf_is_word ih) hr tk (qa_cons (qe_ix (qx (qe_var 0)) (qx qe_int)) qa_nil)))) qss_nil) (qss_cons (qs_if (qt_tru (qx (qe_call (okf_has_form ih) hr tk (qa_cons (qe_var 0) (qa_cons qe_str (qa_cons qe_int qa_nil)))))) (qss_one (qs_ret (qe_and (qe_call (okf_is_sign ih) hr tk (qa_cons (qe_ix (qx (qe_var 0)) (qx qe_int)) qa_nil)) (qe_one (qe_call (okf_is_list_of ih) hr tk (qa_cons (qe_ix (qx (qe_var 0)) (qx qe_int)) (qa_cons qe_int (qa_cons qe_int (qa_cons (qe_glo T.g_is_expression) qa_nil))))))))) qss_nil) (qss_cons (qs_if (qt_w (qw_or (qt_tru (qx (qe_call (okf_has_form ih) hr tk (qa_cons (qe_var 0) (qa_cons qe_str (qa_cons qe_int qa_nil)))))) (qw_or1 (qt_tru (qx (qe_call (okf_has_form ih) hr tk (qa_cons (qe_var 0) (qa_cons qe_str (qa_cons qe_int qa_nil))))))))) (qss_one (qs_ret (qe_call (okf_is_list_of ih) hr tk (qa_cons (qe_callTy call_list_of cas_list T.f_list (by decide +kernel) (qxs_cons (qx (qe_cut (qx (qe_var 0)) (qo_some qe_int) qo_none)) qxs_nil)) (qa_cons qe_int (qa_cons qe_int (qa_cons (qe_glo T.g_is_expression) qa_nil))))))) qss_nil) (qss_one (qs_ret qe_bl))))))
theorem fd_is_place (T : Tx K w mg) (hs : SysB base) (ih : OkC P w K mg base k c) : FD P w K mg base (k + 2) "is_place" (g_is_place c) :=
  fd_mk T.d_is_place T.g_is_place sc_is_place bi_is_place rfl rfl fun cdv A up s H E hr tk pw =>
    (qss_one (qs_ret (qe_and (qe_call (okf_is_expression ih) hr tk (qa_cons (qe_var 0) qa_nil)) (qe_one (qe_in (qx (qe_ix (qx (qe_var 0)) (qx qe_int))) (qx (qe_tup (qa_cons qe_str (qa_cons qe_str (qa_cons qe_str qa_nil))))))))))
theorem fd_is_many (T : Tx K w mg) (hs : SysB base) (ih : OkC P w K mg base k c) : FD P w K mg base (k + 2) "is_many" (g_is_many c) :=
  fd_mk T.d_is_many T.g_is_many sc_is_many bi_is_many rfl rfl fun cdv A up s H E hr tk pw =>
    (qss_cons (qs_if (qt_w (qw_or (qt_not (qt_tru (qx (qe_call (okf_has_form ih) hr tk (qa_cons (qe_var 0) (qa_cons qe_str (qa_cons qe_int qa_nil))))))) (qw_or1 (qt_not (qt_tru (qx (qe_call (okf_is_list_of ih) hr tk (qa_cons (qe_ix (qx (qe_var 0)) (qx qe_int)) (qa_cons qe_int (qa_cons qe_int (qa_cons (qe_glo T.g_is_place) qa_nil))))))))))) (qss_one (qs_ret qe_bl)) qss_nil) (qss_cons (qs_par3 rfl sc_is_many.nd 1 2 3 (qa_cons (qe_ix (qx (qe_var 0)) (qx qe_int)) (qa_cons (qe_ix (qx (qe_var 0)) (qx qe_int)) (qa_cons (qe_ix (qx (qe_var 0)) (qx qe_int)) qa_nil)))) (qss_cons (qs_if (qt_not (qt_tru (qx (qe_call (okf_is_list_of ih) hr tk (qa_cons (qe_var 3) (qa_cons qe_int (qa_cons qe_int (qa_cons (qe_glo T.g_is_expression) qa_nil)))))))) (qss_one (qs_ret qe_bl)) qss_nil) (qss_cons (qs_if (qt_is (qx (qe_var 2)) (qx qe_non)) (qss_one (qs_ret (qe_in (qx (qe_callB call_len cas_len T.f_len (by decide +kernel) (qxs_cons (qx (qe_var 3)) qxs_nil))) (qx (qe_tup (qa_cons qe_int (qa_cons (qe_callB call_len cas_len T.f_len (by decide +kernel) (qxs_cons (qx (qe_var 1)) qxs_nil)) qa_nil))))))) qss_nil) (qss_cons (qs_if (qt_w (qw_or (qt_not (qt_tru (qx (qe_callB call_isiA cas_isi T.f_isinstance (by decide +kernel) (qxs_cons (qx (qe_var 2)) (qxs_cons (qx (qe_ty T.f_int (by decide +kernel))) qxs_nil)))))) (qw_or1 (qt_tru (qx (qe_callB call_isiA cas_isi T.f_isinstance (by decide +kernel) (qxs_cons (qx (qe_var 2)) (qxs_cons (qx (qe_ty T.f_bool (by decide +kernel))) qxs_nil)))))))) (qss_one (qs_ret qe_bl)) qss_nil) (qss_one (qs_ret (qe_and (qe_eq hr.r (qx (qe_callB call_len cas_len T.f_len (by decide +kernel) (qxs_cons (qx (qe_var 3)) qxs_nil))) (qx qe_int)) (qe_one (qe_chn op_le os_le op_lt os_lt (qx qe_int) (qx (qe_var 2)) (qx (qe_callB call_len cas_len T.f_len (by decide +kernel) (qxs_cons (qx (qe_var 1)) qxs_nil)))))))))))))
theorem fd_is_simple_row (T : Tx K w mg) (hs : SysB base) (ih : OkC P w K mg base k c) : FD P w K mg base (k + 2) "is_simple_row" (g_is_simple_row c) :=
  fd_mk T.d_is_simple_row T.g_is_simple_row sc_is_simple_row bi_is_simple_row rfl rfl fun cdv A up s H E hr tk pw =>
    (qss_cons (qs_if (qt_tru (qx (qe_call (okf_has_form ih) hr tk (qa_cons (qe_var 0) (qa_cons qe_str (qa_cons qe_int qa_nil)))))) (qss_one (qs_ret (qe_call (okf_is_expression ih) hr tk (qa_cons (qe_ix (qx (qe_var 0)) (qx qe_int)) qa_nil)))) qss_nil) (qss_cons (qs_if (qt_w (qw_or (qt_tru (qx (qe_call (okf_has_form ih) hr tk (qa_cons (qe_var 0) (qa_cons qe_str (qa_cons qe_int qa_nil)))))) (qw_or1 (qt_tru (qx (qe_call (okf_has_form ih) hr tk (qa_cons (qe_var 0) (qa_cons qe_str (qa_cons qe_int qa_nil))))))))) (qss_one (qs_ret (qe_and (qe_call (okf_is_place ih) hr tk (qa_cons (qe_ix (qx (qe_var 0)) (qx qe_int)) qa_nil)) (qe_one (qe_call (okf_is_expression ih) hr tk (qa_cons (qe_ix (qx (qe_var 0)) (qx qe_int)) qa_nil)))))) qss_nil) (qss_cons (qs_if (qt_tru (qx (qe_call (okf_has_form ih) hr tk (qa_cons (qe_var 0) (qa_cons qe_str (qa_cons qe_int qa_nil)))))) (qss_one (qs_ret (qe_and (qe_call (okf_is_place ih) hr tk (qa_cons (qe_ix (qx (qe_var 0)) (qx qe_int)) qa_nil)) (qe_one (qe_call (okf_is_place ih) hr tk (qa_cons (qe_ix (qx (qe_var 0)) (qx qe_int)) qa_nil)))))) qss_nil) (qss_cons (qs_if (qt_tru (qx (qe_call (okf_has_form ih) hr tk (qa_cons (qe_var 0) (qa_cons qe_str (qa_cons qe_int qa_nil)))))) (qss_one (qs_ret (qe_and (qe_call (okf_is_list_of ih) hr tk (qa_cons (qe_ix (qx (qe_var 0)) (qx qe_int)) (qa_cons qe_int (qa_cons qe_int (qa_cons (qe_glo T.g_is_place) qa_nil))))) (qe_one (qe_call (okf_is_expression ih) hr tk (qa_cons (qe_ix (qx (qe_var 0)) (qx qe_int)) qa_nil)))))) qss_nil) (qss_one (qs_ret (qe_call (okf_is_many ih) hr tk (qa_cons (qe_var 0) qa_nil))))))))
theorem fd_is_any (T : Tx K w mg) (hs : SysB base) (ih : OkC P w K mg base k c) : FD P w K mg base (k + 2) "is_any" (g_is_any c) :=
  fd_mk T.d_is_any T.g_is_any sc_is_any bi_is_any rfl rfl fun cdv A up s H E hr tk pw =>
    (qss_one (qs_ret qe_bl))
theorem fd_is_operand (T : Tx K w mg) (hs : SysB base) (ih : OkC P w K mg base k c) : FD P w K mg base (k + 2) "is_operand" (g_is_operand c) :=
  fd_mk T.d_is_operand T.g_is_operand sc_is_operand bi_is_operand rfl rfl fun cdv A up s H E hr tk pw =>
    (qss_one (qs_ret (qe_and (qe_call (okf_is_expression ih) hr tk (qa_cons (qe_var 0) qa_nil)) (qe_one (qe_in (qx (qe_ix (qx (qe_var 0)) (qx qe_int))) (qx (qe_tup (qa_cons qe_str (qa_cons qe_str qa_nil)))))))))
theorem fd_blocks_of (T : Tx K w mg) (hs : SysB base) (ih : OkC P w K mg base k c) : FD P w K mg base (k + 2) "blocks_of" (g_blocks_of c) :=
  fd_mk T.d_blocks_of T.g_blocks_of sc_blocks_of bi_blocks_of rfl rfl fun cdv A up s H E hr tk pw =>
    (qss_cons (qs_if (qt_tru (qx (qe_call (okf_has_form ih) hr tk (qa_cons (qe_var 0) (qa_cons qe_str (qa_cons qe_int qa_nil)))))) (qss_one (qs_if (qt_not (qt_tru (qx (qe_call (okf_is_list_of ih) hr tk (qa_cons (qe_ix (qx (qe_var 0)) (qx qe_int)) (qa_cons qe_int (qa_cons qe_int (qa_cons (qe_glo T.g_is_any) qa_nil)))))))) (qss_one (qs_ret qe_non)) qss_nil)) (qss_one (qs_if (qt_not (qt_tru (qx (qe_call (okf_has_form ih) hr tk (qa_cons (qe_var 0) (qa_cons qe_str (qa_cons qe_int qa_nil))))))) (qss_one (qs_ret qe_non)) qss_nil))) (qss_cons (qs_if (qt_w (qw_or (qt_not (qt_tru (qx (qe_call (okf_is_sign ih) hr tk (qa_cons (qe_ix (qx (qe_var 0)) (qx qe_int)) qa_nil))))) (qw_or1 (qt_not (qt_tru (qx (qe_call (okf_is_list_of ih) hr tk (qa_cons (qe_ix (qx (qe_var 0)) (qx qe_int)) (qa_cons qe_int (qa_cons qe_int (qa_cons (qe_glo T.g_is_operand) qa_nil))))))))))) (qss_one (qs_ret qe_non)) qss_nil) (qss_cons (qs_if (qt_not (qt_tru (qx (qe_call (okf_is_list_of ih) hr tk (qa_cons (qe_ix (qx (qe_var 0)) (qx qe_int)) (qa_cons qe_int (qa_cons qe_int (qa_cons (qe_glo T.g_is_any) qa_nil)))))))) (qss_one (qs_ret qe_non)) qss_nil) (qss_one (qs_ret (qe_callTy call_tuple_of cas_tuple T.f_tuple (by decide +kernel) (qxs_cons (qx (qe_cut (qx (qe_var 0)) (qo_some qe_int) qo_none)) qxs_nil)))))))
theorem fd_fault_in (T : Tx K w mg) (hs : SysB base) (ih : OkC P w K mg base k c) : FD P w K mg base (k + 2) "fault_in" (g_fault_in c) :=
  fd_mk T.d_fault_in T.g_fault_in sc_fault_in bi_fault_in rfl rfl fun cdv A up s H E hr tk pw =>
    (qss_cons (qs_if (qt_tru (qx (qe_call (okf_is_simple_row ih) hr tk (qa_cons (qe_var 0) qa_nil)))) (qss_one (qs_ret qe_non)) qss_nil) (qss_cons (qs_asg sc_fault_in.nd 1 (qe_call (okf_blocks_of ih) hr tk (qa_cons (qe_var 0) qa_nil))) (qss_cons (qs_if (qt_is (qx (qe_var 1)) (qx qe_non)) (qss_one (qs_ret (qe_tup qa_nil))) qss_nil) (qss_cons (qs_for pw rfl (qi_enum T.f_enumerate (qa_cons (qe_var 1) qa_nil)) (qg_tup rfl (qgs_cons (qg_name sc_fault_in.nd 2) (qgs_cons (qg_name sc_fault_in.nd 3) qgs_nil))) (qss_cons (qs_asg sc_fault_in.nd 4 (qe_call (okf_first_fault ih) hr tk (qa_cons (qe_var 3) qa_nil))) (qss_one (qs_if (qt_isnot (qx (qe_var 4)) (qx qe_non)) (qss_one (qs_ret (qe_add (qx (qe_tup (qa_cons (qe_var 2) qa_nil))) (qx (qe_var 4))))) qss_nil)))) (qss_one (qs_ret qe_non))))))
theorem fd_first_fault (T : Tx K w mg) (hs : SysB base) (ih : OkC P w K mg base k c) : FD P w K mg base (k + 2) "first_fault" (g_first_fault c) :=
  fd_mk T.d_first_fault T.g_first_fault sc_first_fault bi_first_fault rfl rfl fun cdv A up s H E hr tk pw =>
    (qss_cons (qs_for pw rfl (qi_enum T.f_enumerate (qa_cons (qe_var 0) qa_nil)) (qg_tup rfl (qgs_cons (qg_name sc_first_fault.nd 1) (qgs_cons (qg_name sc_first_fault.nd 2) qgs_nil))) (qss_cons (qs_asg sc_first_fault.nd 3 (qe_call (okf_fault_in ih) hr tk (qa_cons (qe_var 2) qa_nil))) (qss_one (qs_if (qt_isnot (qx (qe_var 3)) (qx qe_non)) (qss_one (qs_ret (qe_add (qx (qe_tup (qa_cons (qe_var 1) qa_nil))) (qx (qe_var 3))))) qss_nil)))) (qss_one (qs_ret qe_non)))
theorem fd_helper_number (T : Tx K w mg) (hs : SysB base) (ih : OkC P w K mg base k c) : FD P w K mg base (k + 2) "helper_number" (g_helper_number c) :=
  fd_mk T.d_helper_number T.g_helper_number sc_helper_number bi_helper_number rfl rfl fun cdv A up s H E hr tk pw =>
    (qss_one (qs_ret (qe_callTy call_int1 cas_int T.f_int (by decide +kernel) (qxs_cons (qx (qe_cut (qx (qe_var 0)) (qo_some qe_int) qo_none)) qxs_nil))))
theorem fd_Program_init (T : Tx K w mg) (hs : SysB base) (ih : OkC P w K mg base k c) : FI P w K mg base (k + 2) "Program" (InB "Program.__init__" st_Program_init ["self", "rows"] (fun K => []) (fun K => [])) (g_Program_init c) :=
  fi_mk T.d_Program_init T.g_Program T.mk_Program sc_Program_init rfl rfl fun cdv A up s H E hr tk pw =>
    (qss_cons (qs_asg sc_Program_init.nd 2 (qe_tup qa_nil)) (qss_cons (qs_if (qt_tru (qx (qe_callB call_isiA cas_isi T.f_isinstance (by decide +kernel) (qxs_cons (qx (qe_var 1)) (qxs_cons (qx (qe_tup (qa_cons (qe_ty T.f_tuple (by decide +kernel)) (qa_cons (qe_ty T.f_list (by decide +kernel)) qa_nil)))) qxs_nil))))) (qss_one (qs_asg sc_Program_init.nd 2 (qe_call (okf_first_fault ih) hr tk (qa_cons (qe_var 1) qa_nil)))) qss_nil) (qss_cons (qs_if (qt_isnot (qx (qe_var 2)) (qx qe_non)) (qss_one qs_never) qss_nil) (qss_cons (qs_fld ⟨T.k_Program, T.na_Program_held⟩ (qe_var 0) (qe_call (okf_as_tuples ih) hr tk (qa_cons (qe_var 1) qa_nil))) (qss_cons (qs_asg sc_Program_init.nd 3 (qe_frzD qd_nil)) (qss_cons (qs_expr (qe_call (okf_unset_in ih) hr tk (qa_cons (qe_fld ⟨T.k_Program, T.na_Program_held⟩ (qe_var 0)) (qa_cons (qe_frzD qd_nil) (qa_cons (qe_var 3) qa_nil))))) (qss_one (qs_if (qt_tru (qx (qe_var 3))) (qss_one qs_never) qss_nil))))))))
theorem fd_l_bag (T : Tx K w mg) (hs : SysB base) (ih : OkC P w K mg base k c) : FD P w K mg base (k + 2) "_law_bag" (g_l_bag c) :=
  fd_mk T.d_l_bag T.g_l_bag sc_l_bag bi_l_bag rfl rfl fun cdv A up s H E hr tk pw =>
    (qss_one (qs_ret (qe_new (qf_lst (qa_cons qe_int (qa_cons qe_int (qa_cons qe_int (qa_cons (qe_frz (qf_lc (own := [("_law_cell", 1)]) rfl sc_l_bag.nd (qi_seq (qe_cut (qx (qe_var 0)) qo_none (qo_some qe_int))) (blkOk_by (own := [("_law_cell", 1)]) (N := ["_law_script", "_law_cell"]) (sc := defScope st_l_bag) (by decide +kernel)) (fun _ _ _ _ _ => (qg_name sc_l_bag.nd 1)) (fun _ _ _ _ _ => qts_nil) (fun _ _ _ _ _ => (qe_callB call_abs cas_abs T.f_abs (by decide +kernel) (qxs_cons (qx (qe_var 1)) qxs_nil))))) qa_nil))))))))
theorem fd_l_take (T : Tx K w mg) (hs : SysB base) (ih : OkC P w K mg base k c) : FD P w K mg base (k + 2) "_law_take" (g_l_take c) :=
  fd_mk T.d_l_take T.g_l_take sc_l_take bi_l_take rfl rfl fun cdv A up s H E hr tk pw =>
    (qss_cons (qs_if (qt_eq hr.r (qx (qe_ix (qx (qe_var 0)) (qx qe_int))) (qx qe_int)) (qss_cons (qs_asg sc_l_take.nd 2 qe_int) (qss_cons (qs_if (qt_lt (qx (qe_ix (qx (qe_var 0)) (qx qe_int))) (qx (qe_callB call_len cas_len T.f_len (by decide +kernel) (qxs_cons (qx (qe_ix (qx (qe_var 0)) (qx qe_int))) qxs_nil)))) (qss_one (qs_asg sc_l_take.nd 2 (qe_ix (qx (qe_ix (qx (qe_var 0)) (qx qe_int))) (qx (qe_ix (qx (qe_var 0)) (qx qe_int)))))) qss_nil) (qss_cons (qs_augI ip_add ips_add (qe_var 0) qe_int qe_int) (qss_cons (qs_if (qt_ge (qx (qe_var 2)) (qx qe_int)) (qss_one (qs_setI (qe_var 0) qe_int (qe_var 2))) qss_nil) (qss_cons (qs_asg sc_l_take.nd 3 (qe_add (qx (qe_add (qx (qe_mul (qx (qe_ix (qx (qe_var 0)) (qx qe_int))) (qx qe_int))) (qx (qe_mod (qx (qe_callTy call_int1 cas_int T.f_int (by decide +kernel) (qxs_cons (qx (qe_var 2)) qxs_nil))) (qx qe_int))))) (qx (qe_mul (qx qe_int) (qx (qe_ix (qx (qe_var 0)) (qx qe_int))))))) (qss_one (qs_setI (qe_var 0) qe_int (qe_mod (qx (qe_callTy call_int1 cas_int T.f_int (by decide +kernel) (qxs_cons (qx (qe_var 3)) qxs_nil))) (qx qe_int))))))))) qss_nil) (qss_cons (qs_if (qt_gt (qx (qe_ix (qx (qe_var 0)) (qx qe_int))) (qx qe_int)) (qss_cons (qs_asg sc_l_take.nd 4 (qe_mod (qx (qe_callTy call_int1 cas_int T.f_int (by decide +kernel) (qxs_cons (qx (qe_ix (qx (qe_var 0)) (qx qe_int))) qxs_nil))) (qx (qe_var 1)))) (qss_cons (qs_setI (qe_var 0) qe_int (qe_fdiv (qx (qe_callTy call_int1 cas_int T.f_int (by decide +kernel) (qxs_cons (qx (qe_ix (qx (qe_var 0)) (qx qe_int))) qxs_nil))) (qx (qe_var 1)))) (qss_one (qs_ret (qe_var 4))))) qss_nil) (qss_cons (qs_asg sc_l_take.nd 5 (qe_mod (qx (qe_callTy call_int1 cas_int T.f_int (by decide +kernel) (qxs_cons (qx (qe_mul (qx (qe_add (qx (qe_ix (qx (qe_var 0)) (qx qe_int))) (qx qe_int))) (qx qe_int))) qxs_nil))) (qx qe_int))) (qss_cons (qs_asg sc_l_take.nd 6 (qe_mod (qx (qe_callTy call_int1 cas_int T.f_int (by decide +kernel) (qxs_cons (qx (qe_mul (qx (qe_mod (qx (qe_callTy call_int1 cas_int T.f_int (by decide +kernel) (qxs_cons (qx (qe_mul (qx (qe_var 5)) (qx (qe_var 5)))) qxs_nil))) (qx qe_int))) (qx qe_int))) qxs_nil))) (qx qe_int))) (qss_one (qs_ret (qe_mod (qx (qe_callTy call_int1 cas_int T.f_int (by decide +kernel) (qxs_cons (qx (qe_fdiv (qx (qe_var 6)) (qx qe_int))) qxs_nil))) (qx (qe_var 1)))))))))
theorem fd_l_names (T : Tx K w mg) (hs : SysB base) (ih : OkC P w K mg base k c) : FD P w K mg base (k + 2) "_law_names" (g_l_names c) :=
  fd_mk T.d_l_names T.g_l_names sc_l_names bi_l_names rfl rfl fun cdv A up s H E hr tk pw =>
    (qss_cons (qs_asg sc_l_names.nd 2 (qe_strM PySem.F.slot_str_split PySem.F.type_str_split mt_split mts_split qe_str (qa_cons qe_str qa_nil))) (qss_cons (qs_asg sc_l_names.nd 3 (qe_call (okf_l_take ih) hr tk (qa_cons (qe_var 0) (qa_cons qe_int qa_nil)))) (qss_one (qs_ret (qe_cut (qx (qe_add (qx (qe_var 2)) (qx (qe_var 2)))) (qo_some (qe_var 3)) (qo_some (qe_add (qx (qe_var 3)) (qx (qe_var 1)))))))))
theorem fd_l_signs (T : Tx K w mg) (hs : SysB base) (ih : OkC P w K mg base k c) : FD P w K mg base (k + 2) "_law_signs" (g_l_signs c) :=
  fd_mk T.d_l_signs T.g_l_signs sc_l_signs bi_l_signs rfl rfl fun cdv A up s H E hr tk pw =>
    (qss_cons (qs_asg sc_l_signs.nd 2 (qe_strM PySem.F.slot_str_split PySem.F.type_str_split mt_split mts_split qe_str (qa_cons qe_str qa_nil))) (qss_cons (qs_asg sc_l_signs.nd 3 (qe_call (okf_l_take ih) hr tk (qa_cons (qe_var 0) (qa_cons qe_int qa_nil)))) (qss_one (qs_ret (qe_cut (qx (qe_add (qx (qe_var 2)) (qx (qe_var 2)))) (qo_some (qe_var 3)) (qo_some (qe_add (qx (qe_var 3)) (qx (qe_var 1)))))))))
theorem fd_l_words (T : Tx K w mg) (hs : SysB base) (ih : OkC P w K mg base k c) : FD P w K mg base (k + 2) "_law_words" (g_l_words c) :=
  fd_mk T.d_l_words T.g_l_words sc_l_words bi_l_words rfl rfl fun cdv A up s H E hr tk pw =>
    (qss_cons (qs_asg sc_l_words.nd 2 (qe_strM PySem.F.slot_str_split PySem.F.type_str_split mt_split mts_split qe_str (qa_cons qe_str qa_nil))) (qss_cons (qs_asg sc_l_words.nd 3 (qe_call (okf_l_take ih) hr tk (qa_cons (qe_var 0) (qa_cons qe_int qa_nil)))) (qss_one (qs_ret (qe_cut (qx (qe_add (qx (qe_var 2)) (qx (qe_var 2)))) (qo_some (qe_var 3)) (qo_some (qe_add (qx (qe_var 3)) (qx (qe_var 1)))))))))
theorem fd_l_room (T : Tx K w mg) (hs : SysB base) (ih : OkC P w K mg base k c) : FD P w K mg base (k + 2) "_law_room" (g_l_room c) :=
  fd_mk T.d_l_room T.g_l_room sc_l_room bi_l_room rfl rfl fun cdv A up s H E hr tk pw =>
    (qss_one (qs_ret (qe_new (qf_lst (qa_cons (qe_var 1) (qa_cons (qe_var 2) (qa_cons (qe_call (okf_l_names ih) hr tk (qa_cons (qe_var 0) (qa_cons (qe_var 3) qa_nil))) (qa_cons (qe_call (okf_l_signs ih) hr tk (qa_cons (qe_var 0) (qa_cons (qe_var 4) qa_nil))) (qa_cons (qe_call (okf_l_words ih) hr tk (qa_cons (qe_var 0) (qa_cons (qe_var 5) qa_nil))) qa_nil)))))))))
theorem fd_l_one (T : Tx K w mg) (hs : SysB base) (ih : OkC P w K mg base k c) : FD P w K mg base (k + 2) "_law_one" (g_l_one c) :=
  fd_mk T.d_l_one T.g_l_one sc_l_one bi_l_one rfl rfl fun cdv A up s H E hr tk pw =>
    (qss_one (qs_ret (qe_ix (qx (qe_var 1)) (qx (qe_call (okf_l_take ih) hr tk (qa_cons (qe_var 0) (qa_cons (qe_callB call_len cas_len T.f_len (by decide +kernel) (qxs_cons (qx (qe_var 1)) qxs_nil)) qa_nil)))))))
theorem fd_l_operand (T : Tx K w mg) (hs : SysB base) (ih : OkC P w K mg base k c) : FD P w K mg base (k + 2) "_law_operand" (g_l_operand c) :=
  fd_mk T.d_l_operand T.g_l_operand sc_l_operand bi_l_operand rfl rfl fun cdv A up s H E hr tk pw =>
    (qss_cons (qs_if (qt_eq hr.r (qx (qe_call (okf_l_take ih) hr tk (qa_cons (qe_var 0) (qa_cons qe_int qa_nil)))) (qx qe_int)) (qss_one (qs_ret (qe_tup (qa_cons qe_str (qa_cons (qe_call (okf_l_one ih) hr tk (qa_cons (qe_var 0) (qa_cons (qe_ix (qx (qe_var 1)) (qx qe_int)) qa_nil))) qa_nil))))) qss_nil) (qss_one (qs_ret (qe_tup (qa_cons qe_str (qa_cons (qe_call (okf_l_one ih) hr tk (qa_cons (qe_var 0) (qa_cons (qe_ix (qx (qe_var 1)) (qx qe_int)) qa_nil))) qa_nil))))))
theorem fd_l_value (T : Tx K w mg) (hs : SysB base) (ih : OkC P w K mg base k c) : FD P w K mg base (k + 2) "_law_value" (g_l_value c) :=
  fd_mk T.d_l_value T.g_l_value sc_l_value bi_l_value rfl rfl fun cdv A up s H E hr tk pw =>
    (qss_cons (qs_asg sc_l_value.nd 3 (qe_call (okf_l_take ih) hr tk (qa_cons (qe_var 0) (qa_cons qe_int qa_nil)))) (qss_cons (qs_if (qt_w (qw_or (qt_lt (qx (qe_var 2)) (qx qe_int)) (qw_or1 (qt_gt (qx (qe_var 3)) (qx qe_int))))) (qss_one (qs_ret (qe_call (okf_l_operand ih) hr tk (qa_cons (qe_var 0) (qa_cons (qe_var 1) qa_nil))))) qss_nil) (qss_cons (qs_if (qt_w (qw_and (qt_lt (qx (qe_var 3)) (qx qe_int)) (qw_and1 (qt_gt (qx (qe_ix (qx (qe_var 1)) (qx qe_int))) (qx qe_int))))) (qss_cons (qs_augI ip_sub ips_sub (qe_var 1) qe_int qe_int) (qss_cons (qs_asg sc_l_value.nd 4 (qe_ix (qx (qe_frz (qf_lst (qa_cons qe_int (qa_cons qe_int (qa_cons qe_int (qa_cons qe_int (qa_cons qe_int (qa_cons qe_int qa_nil))))))))) (qx (qe_call (okf_l_take ih) hr tk (qa_cons (qe_var 0) (qa_cons qe_int qa_nil)))))) (qss_cons (qs_asg sc_l_value.nd 5 (qe_call (okf_l_one ih) hr tk (qa_cons (qe_var 0) (qa_cons (qe_ix (qx (qe_var 1)) (qx qe_int)) qa_nil)))) (qss_one (qs_ret (qe_tup (qa_cons qe_str (qa_cons (qe_var 5) (qa_cons (qe_callTy call_tuple_of cas_tuple T.f_tuple (by decide +kernel) (qxs_cons (qx (qe_frz (qf_lc (own := [("_law_k", 8)]) rfl sc_l_value.nd (qi_range1 T.f_range (qa_cons (qe_var 4) qa_nil)) (blkOk_by (own := [("_law_k", 8)]) (N := ["_law_bag_here", "_law_room_here", "_law_deep", "_law_way", "_law_count", "_law_sign", "_law_base", "_law_low", "_law_k"]) (sc := defScope st_l_value) (by decide +kernel)) (fun _ _ _ _ _ => (qg_name sc_l_value.nd 8)) (fun _ _ _ _ _ => qts_nil) (fun _ _ _ _ _ => (qe_call (okf_l_value ih) hr takesW0 (qa_cons (qe_var 0) (qa_cons (qe_var 1) (qa_cons (qe_sub (qx (qe_var 2)) (qx qe_int)) qa_nil)))))))) qxs_nil)) qa_nil))))))))) qss_nil) (qss_cons (qs_if (qt_w (qw_and (qt_lt (qx (qe_var 3)) (qx qe_int)) (qw_and1 (qt_gt (qx (qe_ix (qx (qe_var 1)) (qx qe_int))) (qx qe_int))))) (qss_cons (qs_augI ip_sub ips_sub (qe_var 1) qe_int qe_int) (qss_cons (qs_asg sc_l_value.nd 6 (qe_call (okf_l_value ih) hr tk (qa_cons (qe_var 0) (qa_cons (qe_var 1) (qa_cons (qe_sub (qx (qe_var 2)) (qx qe_int)) qa_nil))))) (qss_one (qs_ret (qe_tup (qa_cons qe_str (qa_cons (qe_var 6) (qa_cons (qe_call (okf_l_value ih) hr tk (qa_cons (qe_var 0) (qa_cons (qe_var 1) (qa_cons (qe_sub (qx (qe_var 2)) (qx qe_int)) qa_nil)))) qa_nil)))))))) qss_nil) (qss_cons (qs_if (qt_w (qw_and (qt_eq hr.r (qx (qe_var 3)) (qx qe_int)) (qw_and (qt_gt (qx (qe_ix (qx (qe_var 1)) (qx qe_int))) (qx qe_int)) (qw_and1 (qt_gt (qx (qe_ix (qx (qe_var 1)) (qx qe_int))) (qx qe_int)))))) (qss_cons (qs_augI ip_sub ips_sub (qe_var 1) qe_int qe_int) (qss_cons (qs_augI ip_sub ips_sub (qe_var 1) qe_int qe_int) (qss_cons (qs_asg sc_l_value.nd 6 (qe_call (okf_l_value ih) hr tk (qa_cons (qe_var 0) (qa_cons (qe_var 1) (qa_cons (qe_sub (qx (qe_var 2)) (qx qe_int)) qa_nil))))) (qss_cons (qs_asg sc_l_value.nd 7 (qe_call (okf_l_value ih) hr tk (qa_cons (qe_var 0) (qa_cons (qe_var 1) (qa_cons (qe_sub (qx (qe_var 2)) (qx qe_int)) qa_nil))))) (qss_one (qs_ret (qe_tup (qa_cons qe_str (qa_cons (qe_var 6) (qa_cons (qe_var 7) (qa_cons (qe_call (okf_l_value ih) hr tk (qa_cons (qe_var 0) (qa_cons (qe_var 1) (qa_cons (qe_sub (qx (qe_var 2)) (qx qe_int)) qa_nil)))) qa_nil))))))))))) qss_nil) (qss_one (qs_ret (qe_call (okf_l_operand ih) hr tk (qa_cons (qe_var 0) (qa_cons (qe_var 1) qa_nil))))))))))
theorem fd_l_place (T : Tx K w mg) (hs : SysB base) (ih : OkC P w K mg base k c) : FD P w K mg base (k + 2) "_law_place" (g_l_place c) :=
  fd_mk T.d_l_place T.g_l_place sc_l_place bi_l_place rfl rfl fun cdv A up s H E hr tk pw =>
    (qss_cons (qs_asg sc_l_place.nd 4 (qe_call (okf_l_take ih) hr tk (qa_cons (qe_var 0) (qa_cons qe_int qa_nil)))) (qss_cons (qs_if (qt_w (qw_and (qt_lt (qx (qe_var 4)) (qx qe_int)) (qw_and1 (qt_ge (qx (qe_ix (qx (qe_var 1)) (qx qe_int))) (qx (qe_var 3)))))) (qss_cons (qs_augI ip_sub ips_sub (qe_var 1) qe_int (qe_var 3)) (qss_cons (qs_asg sc_l_place.nd 5 (qe_call (okf_l_value ih) hr tk (qa_cons (qe_var 0) (qa_cons (qe_var 1) (qa_cons (qe_sub (qx (qe_var 2)) (qx qe_int)) qa_nil))))) (qss_one (qs_ret (qe_tup (qa_cons qe_str (qa_cons (qe_var 5) (qa_cons (qe_call (okf_l_value ih) hr tk (qa_cons (qe_var 0) (qa_cons (qe_var 1) (qa_cons (qe_sub (qx (qe_var 2)) (qx qe_int)) qa_nil)))) qa_nil)))))))) qss_nil) (qss_cons (qs_if (qt_w (qw_and (qt_eq hr.r (qx (qe_var 4)) (qx qe_int)) (qw_and (qt_ge (qx (qe_ix (qx (qe_var 1)) (qx qe_int))) (qx (qe_var 3))) (qw_and1 (qt_ge (qx (qe_ix (qx (qe_var 1)) (qx qe_int))) (qx (qe_var 3))))))) (qss_cons (qs_augI ip_sub ips_sub (qe_var 1) qe_int (qe_var 3)) (qss_cons (qs_augI ip_sub ips_sub (qe_var 1) qe_int (qe_var 3)) (qss_cons (qs_asg sc_l_place.nd 5 (qe_call (okf_l_operand ih) hr tk (qa_cons (qe_var 0) (qa_cons (qe_var 1) qa_nil)))) (qss_cons (qs_asg sc_l_place.nd 6 (qe_call (okf_l_value ih) hr tk (qa_cons (qe_var 0) (qa_cons (qe_var 1) (qa_cons (qe_sub (qx (qe_var 2)) (qx qe_int)) qa_nil))))) (qss_one (qs_ret (qe_tup (qa_cons qe_str (qa_cons (qe_var 5) (qa_cons (qe_var 6) (qa_cons (qe_call (okf_l_operand ih) hr tk (qa_cons (qe_var 0) (qa_cons (qe_var 1) qa_nil))) qa_nil))))))))))) qss_nil) (qss_one (qs_ret (qe_tup (qa_cons qe_str (qa_cons (qe_call (okf_l_one ih) hr tk (qa_cons (qe_var 0) (qa_cons (qe_ix (qx (qe_var 1)) (qx qe_int)) qa_nil))) qa_nil))))))))
theorem fd_l_row (T : Tx K w mg) (hs : SysB base) (ih : OkC P w K mg base k c) : FD P w K mg base (k + 2) "_law_row" (g_l_row c) :=
  fd_mk T.d_l_row T.g_l_row sc_l_row bi_l_row rfl rfl fun cdv A up s H E hr tk pw =>
    (qss_cons (qs_asg sc_l_row.nd 4 (qe_call (okf_l_one ih) hr tk (qa_cons (qe_var 0) (qa_cons (qe_var 3) qa_nil)))) (qss_cons (qs_if (qt_w (qw_and (qt_eq hr.r (qx (qe_var 4)) (qx qe_str)) (qw_and1 (qt_gt (qx (qe_ix (qx (qe_var 1)) (qx qe_int))) (qx qe_int))))) (qss_cons (qs_augI ip_sub ips_sub (qe_var 1) qe_int qe_int) (qss_cons (qs_asg sc_l_row.nd 5 (qe_call (okf_l_place ih) hr tk (qa_cons (qe_var 0) (qa_cons (qe_var 1) (qa_cons (qe_var 2) (qa_cons qe_int qa_nil)))))) (qss_one (qs_ret (qe_tup (qa_cons qe_str (qa_cons (qe_var 5) (qa_cons (qe_call (okf_l_value ih) hr tk (qa_cons (qe_var 0) (qa_cons (qe_var 1) (qa_cons (qe_var 2) qa_nil)))) qa_nil)))))))) qss_nil) (qss_cons (qs_if (qt_eq hr.r (qx (qe_var 4)) (qx qe_str)) (qss_cons (qs_asg sc_l_row.nd 5 (qe_call (okf_l_place ih) hr tk (qa_cons (qe_var 0) (qa_cons (qe_var 1) (qa_cons (qe_var 2) (qa_cons qe_int qa_nil)))))) (qss_one (qs_ret (qe_tup (qa_cons qe_str (qa_cons (qe_var 5) (qa_cons (qe_call (okf_l_place ih) hr tk (qa_cons (qe_var 0) (qa_cons (qe_var 1) (qa_cons (qe_var 2) (qa_cons qe_int qa_nil))))) qa_nil))))))) qss_nil) (qss_cons (qs_if (qt_eq hr.r (qx (qe_var 4)) (qx qe_str)) (qss_cons (qs_asgLc sc_l_row.nd 6 ([("_law_k", 7)]) rfl sc_l_row.nd (qi_range1 T.f_range (qa_cons (qe_add (qx qe_int) (qx (qe_call (okf_l_take ih) hr tk (qa_cons (qe_var 0) (qa_cons qe_int qa_nil))))) qa_nil)) (blkOk_by (own := [("_law_k", 7)]) (N := ["_law_bag_here", "_law_room_here", "_law_deep", "_law_kinds", "_law_kind", "_law_place_here", "_law_places", "_law_k"]) (sc := defScope st_l_row) (by decide +kernel)) (fun _ _ _ _ _ => (qg_name sc_l_row.nd 7)) (fun _ _ _ _ _ => qts_nil) (fun _ _ _ _ _ => (qe_call (okf_l_place ih) hr takesW0 (qa_cons (qe_var 0) (qa_cons (qe_var 1) (qa_cons (qe_var 2) (qa_cons qe_int qa_nil))))))) (qss_one (qs_ret (qe_tup (qa_cons qe_str (qa_cons (qe_callTy call_tuple_of cas_tuple T.f_tuple (by decide +kernel) (qxs_cons (qx (qe_var 6)) qxs_nil)) (qa_cons (qe_call (okf_l_value ih) hr tk (qa_cons (qe_var 0) (qa_cons (qe_var 1) (qa_cons (qe_var 2) qa_nil)))) qa_nil))))))) qss_nil) (qss_cons (qs_if (qt_eq hr.r (qx (qe_var 4)) (qx qe_str)) (qss_one qs_never) qss_nil) (qss_cons (qs_if (qt_eq hr.r (qx (qe_var 4)) (qx qe_str)) (qss_one (qs_ret (qe_tup (qa_cons qe_str (qa_cons (qe_call (okf_l_value ih) hr tk (qa_cons (qe_var 0) (qa_cons (qe_var 1) (qa_cons (qe_var 2) qa_nil)))) qa_nil))))) qss_nil) (qss_cons (qs_asg sc_l_row.nd 5 (qe_call (okf_l_place ih) hr tk (qa_cons (qe_var 0) (qa_cons (qe_var 1) (qa_cons (qe_var 2) (qa_cons qe_int qa_nil)))))) (qss_one (qs_ret (qe_tup (qa_cons qe_str (qa_cons (qe_var 5) (qa_cons (qe_call (okf_l_value ih) hr tk (qa_cons (qe_var 0) (qa_cons (qe_var 1) (qa_cons (qe_var 2) qa_nil)))) qa_nil)))))))))))))
theorem fd_l_rows (T : Tx K w mg) (hs : SysB base) (ih : OkC P w K mg base k c) : FD P w K mg base (k + 2) "_law_rows" (g_l_rows c) :=
  fd_mk T.d_l_rows T.g_l_rows sc_l_rows bi_l_rows rfl rfl fun cdv A up s H E hr tk pw =>
    (qss_one (qs_ret (qe_frz (qf_lc (own := [("_law_k", 5)]) rfl sc_l_rows.nd (qi_range1 T.f_range (qa_cons (qe_var 2) qa_nil)) (blkOk_by (own := [("_law_k", 5)]) (N := ["_law_bag_here", "_law_room_here", "_law_count", "_law_deep", "_law_kinds", "_law_k"]) (sc := defScope st_l_rows) (by decide +kernel)) (fun _ _ _ _ _ => (qg_name sc_l_rows.nd 5)) (fun _ _ _ _ _ => qts_nil) (fun _ _ _ _ _ => (qe_call (okf_l_row ih) hr takesW0 (qa_cons (qe_var 0) (qa_cons (qe_var 1) (qa_cons (qe_var 3) (qa_cons (qe_var 4) qa_nil))))))))))
theorem fd_l_choices (T : Tx K w mg) (hs : SysB base) (ih : OkC P w K mg base k c) : FD P w K mg base (k + 2) "_law_choices" (g_l_choices c) :=
  fd_mk T.d_l_choices T.g_l_choices sc_l_choices bi_l_choices rfl rfl fun cdv A up s H E hr tk pw =>
    (qss_cons (qs_par rfl sc_l_choices.nd 1 2 (qa_cons (qe_call (okf_l_one ih) hr tk (qa_cons (qe_var 0) (qa_cons (qe_frz (qf_lst (qa_cons qe_str (qa_cons qe_str qa_nil)))) qa_nil))) (qa_cons (qe_call (okf_l_one ih) hr tk (qa_cons (qe_var 0) (qa_cons (qe_frz (qf_lst (qa_cons qe_str (qa_cons qe_str qa_nil)))) qa_nil))) qa_nil))) (qss_cons (qs_asg sc_l_choices.nd 3 (qe_call (okf_l_one ih) hr tk (qa_cons (qe_var 0) (qa_cons (qe_frz (qf_lst (qa_cons qe_str (qa_cons qe_str (qa_cons qe_str qa_nil))))) qa_nil)))) (qss_cons (qs_asg sc_l_choices.nd 4 (qe_call (okf_l_one ih) hr tk (qa_cons (qe_var 0) (qa_cons (qe_frz (qf_lst (qa_cons qe_str (qa_cons qe_str (qa_cons qe_str (qa_cons qe_str qa_nil)))))) qa_nil)))) (qss_one (qs_ret (qe_tup (qa_cons (qe_var 1) (qa_cons (qe_var 2) (qa_cons (qe_var 3) (qa_cons (qe_var 4) (qa_cons (qe_call (okf_l_one ih) hr tk (qa_cons (qe_var 0) (qa_cons (qe_frz (qf_lst (qa_cons qe_str (qa_cons qe_str qa_nil)))) qa_nil))) (qa_cons (qe_call (okf_l_one ih) hr tk (qa_cons (qe_var 0) (qa_cons (qe_frz (qf_lst (qa_cons qe_str (qa_cons qe_str qa_nil)))) qa_nil))) qa_nil))))))))))))
theorem fd_Builder_init (T : Tx K w mg) (hs : SysB base) (ih : OkC P w K mg base k c) : FI P w K mg base (k + 2) "Builder" (InB "Builder.__init__" st_Builder_init ["self", "language"] (fun K => []) (fun K => [])) (g_Builder_init c) :=
  fi_mk T.d_Builder_init T.g_Builder T.mk_Builder sc_Builder_init rfl rfl fun cdv A up s H E hr tk pw =>
    (qss_cons (qs_fld ⟨T.k_Builder, T.na_Builder_rules⟩ (qe_var 0) (qe_var 1)) (qss_cons (qs_fld ⟨T.k_Builder, T.na_Builder_made⟩ (qe_var 0) (qe_new (qf_lst qa_nil))) (qss_one (qs_fld ⟨T.k_Builder, T.na_Builder_boxes⟩ (qe_var 0) qe_int))))
theorem fd_Builder_fresh (T : Tx K w mg) (hs : SysB base) (ih : OkC P w K mg base k c) : FM P w K mg base (k + 2) "Builder" "fresh" [] (g_Builder_fresh c) :=
  fm_mk T.d_Builder_fresh T.k_Builder T.m_Builder_fresh sc_Builder_fresh bi_Builder_fresh rfl rfl fun cdv A up s H E hr tk pw =>
    (qss_cons (qs_augF ⟨T.k_Builder, T.na_Builder_boxes⟩ in_add ips_add (qe_var 0) qe_int) (qss_one (qs_ret (qe_sub (qx (qe_fld ⟨T.k_Builder, T.na_Builder_boxes⟩ (qe_var 0))) (qx qe_int)))))
theorem fd_Builder_call (T : Tx K w mg) (hs : SysB base) (ih : OkC P w K mg base k c) : FM P w K mg base (k + 2) "Builder" "call" [] (g_Builder_call c) :=
  fm_mk T.d_Builder_call T.k_Builder T.m_Builder_call sc_Builder_call bi_Builder_call rfl rfl fun cdv A up s H E hr tk pw =>
    (qss_cons (qs_asg sc_Builder_call.nd 3 (qe_meth0 (okf_Builder_fresh ih) hr tk (qe_var 0))) (qss_cons (qs_expr (qe_hdlM PySem.F.slot_list_append PySem.F.type_list_append mt_append owns_app (qe_fld ⟨T.k_Builder, T.na_Builder_made⟩ (qe_var 0)) (qa_cons (qe_tup (qa_cons qe_str (qa_cons (qe_tup (qa_cons (qe_var 3) qa_nil)) (qa_cons (qe_var 1) (qa_cons (qe_callTy call_tuple_of cas_tuple T.f_tuple (by decide +kernel) (qxs_cons (qx (qe_var 2)) qxs_nil)) qa_nil))))) qa_nil))) (qss_one (qs_ret (qe_var 3)))))
theorem fd_Builder_read (T : Tx K w mg) (hs : SysB base) (ih : OkC P w K mg base k c) : FM P w K mg base (k + 2) "Builder" "read" [] (g_Builder_read c) :=
  fm_mk T.d_Builder_read T.k_Builder T.m_Builder_read sc_Builder_read bi_Builder_read rfl rfl fun cdv A up s H E hr tk pw =>
    (qss_cons (qs_asg sc_Builder_read.nd 2 (qe_meth0 (okf_Builder_fresh ih) hr tk (qe_var 0))) (qss_cons (qs_expr (qe_hdlM PySem.F.slot_list_append PySem.F.type_list_append mt_append owns_app (qe_fld ⟨T.k_Builder, T.na_Builder_made⟩ (qe_var 0)) (qa_cons (qe_tup (qa_cons qe_str (qa_cons (qe_var 2) (qa_cons (qe_var 1) qa_nil)))) qa_nil))) (qss_one (qs_ret (qe_var 2)))))
theorem fd_Builder_get_cell (T : Tx K w mg) (hs : SysB base) (ih : OkC P w K mg base k c) : FM P w K mg base (k + 2) "Builder" "get_cell" [] (g_Builder_get_cell c) :=
  fm_mk T.d_Builder_get_cell T.k_Builder T.m_Builder_get_cell sc_Builder_get_cell bi_Builder_get_cell rfl rfl fun cdv A up s H E hr tk pw =>
    (qss_cons (qs_asg sc_Builder_get_cell.nd 3 (qe_meth0 (okf_Builder_fresh ih) hr tk (qe_var 0))) (qss_cons (qs_expr (qe_hdlM PySem.F.slot_list_append PySem.F.type_list_append mt_append owns_app (qe_fld ⟨T.k_Builder, T.na_Builder_made⟩ (qe_var 0)) (qa_cons (qe_tup (qa_cons qe_str (qa_cons (qe_var 3) (qa_cons (qe_var 1) (qa_cons (qe_var 2) qa_nil))))) qa_nil))) (qss_one (qs_ret (qe_var 3)))))
theorem fd_Builder_read_place (T : Tx K w mg) (hs : SysB base) (ih : OkC P w K mg base k c) : FM P w K mg base (k + 2) "Builder" "read_place" [] (g_Builder_read_place c) :=
  fm_mk T.d_Builder_read_place T.k_Builder T.m_Builder_read_place sc_Builder_read_place bi_Builder_read_place rfl rfl fun cdv A up s H E hr tk pw =>
    (qss_cons (qs_if (qt_eq hr.r (qx (qe_ix (qx (qe_var 1)) (qx qe_int))) (qx qe_str)) (qss_one (qs_ret (qe_meth (okf_Builder_read ih) hr tk (qe_var 0) (qa_cons (qe_ix (qx (qe_var 1)) (qx qe_int)) qa_nil)))) qss_nil) (qss_cons (qs_if (qt_eq hr.r (qx (qe_ix (qx (qe_var 1)) (qx qe_int))) (qx qe_str)) (qss_one (qs_ret (qe_meth (okf_Builder_get_cell ih) hr tk (qe_var 0) (qa_cons (qe_ix (qx (qe_ix (qx (qe_var 1)) (qx qe_int))) (qx qe_int)) (qa_cons (qe_ix (qx (qe_ix (qx (qe_var 1)) (qx qe_int))) (qx qe_int)) qa_nil))))) qss_nil) (qss_one (qs_ret (qe_meth (okf_Builder_call ih) hr tk (qe_var 0) (qa_cons qe_str (qa_cons (qe_ix (qx (qe_var 1)) (qx qe_int)) qa_nil)))))))
theorem fd_Builder_in_parts (T : Tx K w mg) (hs : SysB base) (ih : OkC P w K mg base k c) : FM P w K mg base (k + 2) "Builder" "in_parts" [] (g_Builder_in_parts c) :=
  fm_mk T.d_Builder_in_parts T.k_Builder T.m_Builder_in_parts sc_Builder_in_parts bi_Builder_in_parts rfl rfl fun cdv A up s H E hr tk pw =>
    (qss_cons (qs_ownN sc_Builder_in_parts.nd 2 (qn_f (qf_rng T.f_list T.f_range (qe_var 1)))) (qss_cons (qs_if (qt_eq hr.r (qx (qe_fld ⟨T.k_Language, T.na_Language_parts⟩ (qe_fld ⟨T.k_Builder, T.na_Builder_rules⟩ (qe_var 0)))) (qx qe_str)) (qss_one (qs_ownM0 2 PySem.F.slot_list_reverse PySem.F.type_list_reverse mt_reverse owns_rev)) qss_nil) (qss_fz 2 (qss_one (qs_ret (qe_var 2))))))
theorem fd_Builder_work_all (T : Tx K w mg) (hs : SysB base) (ih : OkC P w K mg base k c) : FM P w K mg base (k + 2) "Builder" "work_all" [] (g_Builder_work_all c) :=
  fm_mk T.d_Builder_work_all T.k_Builder T.m_Builder_work_all sc_Builder_work_all bi_Builder_work_all rfl rfl fun cdv A up s H E hr tk pw =>
    (qss_cons (qs_ownN sc_Builder_work_all.nd 2 (qn_f (qf_rep (qe_frz (qf_lst (qa_cons qe_int qa_nil))) (qe_callB call_len cas_len T.f_len (by decide +kernel) (qxs_cons (qx (qe_var 1)) qxs_nil))))) (qss_cons (qs_for pw rfl (qi_seq (qe_meth (okf_Builder_in_parts ih) hr tk (qe_var 0) (qa_cons (qe_callB call_len cas_len T.f_len (by decide +kernel) (qxs_cons (qx (qe_var 1)) qxs_nil)) qa_nil))) (qg_name sc_Builder_work_all.nd 3) (qss_one (qs_setO 2 (qe_var 3) (qe_meth (okf_Builder_work ih) hr tk (qe_var 0) (qa_cons (qe_ix (qx (qe_var 1)) (qx (qe_var 3))) qa_nil))))) (qss_fz 2 (qss_one (qs_ret (qe_var 2))))))
theorem fd_Builder_find_place (T : Tx K w mg) (hs : SysB base) (ih : OkC P w K mg base k c) : FM P w K mg base (k + 2) "Builder" "find_place" [] (g_Builder_find_place c) :=
  fm_mk T.d_Builder_find_place T.k_Builder T.m_Builder_find_place sc_Builder_find_place bi_Builder_find_place rfl rfl fun cdv A up s H E hr tk pw =>
    (qss_cons (qs_if (qt_eq hr.r (qx (qe_ix (qx (qe_var 1)) (qx qe_int))) (qx qe_str)) (qss_one (qs_ret (qe_var 1))) qss_nil) (qss_one (qs_ret (qe_tup (qa_cons (qe_ix (qx (qe_var 1)) (qx qe_int)) (qa_cons (qe_meth (okf_Builder_work_all ih) hr tk (qe_var 0) (qa_cons (qe_cut (qx (qe_var 1)) (qo_some qe_int) qo_none) qa_nil)) qa_nil))))))
theorem fd_Builder_work (T : Tx K w mg) (hs : SysB base) (ih : OkC P w K mg base k c) : FM P w K mg base (k + 2) "Builder" "work" [] (g_Builder_work c) :=
  fm_mk T.d_Builder_work T.k_Builder T.m_Builder_work sc_Builder_work bi_Builder_work rfl rfl fun cdv A up s H E hr tk pw =>
    (qss_cons (qs_if (qt_eq hr.r (qx (qe_ix (qx (qe_var 1)) (qx qe_int))) (qx qe_str)) (qss_one (qs_ret (qe_meth (okf_Builder_read ih) hr tk (qe_var 0) (qa_cons (qe_ix (qx (qe_var 1)) (qx qe_int)) qa_nil)))) qss_nil) (qss_cons (qs_if (qt_eq hr.r (qx (qe_ix (qx (qe_var 1)) (qx qe_int))) (qx qe_str)) (qss_cons (qs_asg sc_Builder_work.nd 2 (qe_meth0 (okf_Builder_fresh ih) hr tk (qe_var 0))) (qss_cons (qs_expr (qe_hdlM PySem.F.slot_list_append PySem.F.type_list_append mt_append owns_app (qe_fld ⟨T.k_Builder, T.na_Builder_made⟩ (qe_var 0)) (qa_cons (qe_tup (qa_cons qe_str (qa_cons (qe_var 2) (qa_cons (qe_ix (qx (qe_var 1)) (qx qe_int)) qa_nil)))) qa_nil))) (qss_one (qs_ret (qe_var 2))))) qss_nil) (qss_cons (qs_if (qt_eq hr.r (qx (qe_ix (qx (qe_var 1)) (qx qe_int))) (qx qe_str)) (qss_one (qs_ret (qe_meth (okf_Builder_call ih) hr tk (qe_var 0) (qa_cons (qe_ix (qx (qe_var 1)) (qx qe_int)) (qa_cons (qe_meth (okf_Builder_work_all ih) hr tk (qe_var 0) (qa_cons (qe_ix (qx (qe_var 1)) (qx qe_int)) qa_nil)) qa_nil))))) qss_nil) (qss_one (qs_ret (qe_meth (okf_Builder_read_place ih) hr tk (qe_var 0) (qa_cons (qe_meth (okf_Builder_find_place ih) hr tk (qe_var 0) (qa_cons (qe_var 1) qa_nil)) qa_nil)))))))
theorem fd_Builder_write_place (T : Tx K w mg) (hs : SysB base) (ih : OkC P w K mg base k c) : FM P w K mg base (k + 2) "Builder" "write_place" [] (g_Builder_write_place c) :=
  fm_mk T.d_Builder_write_place T.k_Builder T.m_Builder_write_place sc_Builder_write_place bi_Builder_write_place rfl rfl fun cdv A up s H E hr tk pw =>
    (qss_one (qs_if (qt_eq hr.r (qx (qe_ix (qx (qe_var 1)) (qx qe_int))) (qx qe_str)) (qss_one (qs_expr (qe_hdlM PySem.F.slot_list_append PySem.F.type_list_append mt_append owns_app (qe_fld ⟨T.k_Builder, T.na_Builder_made⟩ (qe_var 0)) (qa_cons (qe_tup (qa_cons qe_str (qa_cons (qe_ix (qx (qe_var 1)) (qx qe_int)) (qa_cons (qe_var 2) qa_nil)))) qa_nil)))) (qss_one (qs_if (qt_eq hr.r (qx (qe_ix (qx (qe_var 1)) (qx qe_int))) (qx qe_str)) (qss_one (qs_expr (qe_hdlM PySem.F.slot_list_append PySem.F.type_list_append mt_append owns_app (qe_fld ⟨T.k_Builder, T.na_Builder_made⟩ (qe_var 0)) (qa_cons (qe_tup (qa_cons qe_str (qa_cons (qe_ix (qx (qe_ix (qx (qe_var 1)) (qx qe_int))) (qx qe_int)) (qa_cons (qe_ix (qx (qe_ix (qx (qe_var 1)) (qx qe_int))) (qx qe_int)) (qa_cons (qe_var 2) qa_nil))))) qa_nil)))) (qss_one (qs_expr (qe_hdlM PySem.F.slot_list_append PySem.F.type_list_append mt_append owns_app (qe_fld ⟨T.k_Builder, T.na_Builder_made⟩ (qe_var 0)) (qa_cons (qe_tup (qa_cons qe_str (qa_cons (qe_tup qa_nil) (qa_cons qe_str (qa_cons (qe_add (qx (qe_callTy call_tuple_of cas_tuple T.f_tuple (by decide +kernel) (qxs_cons (qx (qe_ix (qx (qe_var 1)) (qx qe_int))) qxs_nil))) (qx (qe_tup (qa_cons (qe_var 2) qa_nil)))) qa_nil))))) qa_nil))))))))
theorem fd_build_set (T : Tx K w mg) (hs : SysB base) (ih : OkC P w K mg base k c) : FD P w K mg base (k + 2) "build_set" (g_build_set c) :=
  fd_mk T.d_build_set T.g_build_set sc_build_set bi_build_set rfl rfl fun cdv A up s H E hr tk pw =>
    (qss_one (qs_if (qt_eq hr.r (qx (qe_fld ⟨T.k_Language, T.na_Language_single⟩ (qe_fld ⟨T.k_Builder, T.na_Builder_rules⟩ (qe_var 0)))) (qx qe_str)) (qss_cons (qs_asg sc_build_set.nd 3 (qe_meth (okf_Builder_find_place ih) hr tk (qe_var 0) (qa_cons (qe_var 1) qa_nil))) (qss_one (qs_expr (qe_meth (okf_Builder_write_place ih) hr tk (qe_var 0) (qa_cons (qe_var 3) (qa_cons (qe_meth (okf_Builder_work ih) hr tk (qe_var 0) (qa_cons (qe_var 2) qa_nil)) qa_nil)))))) (qss_cons (qs_asg sc_build_set.nd 4 (qe_meth (okf_Builder_work ih) hr tk (qe_var 0) (qa_cons (qe_var 2) qa_nil))) (qss_one (qs_expr (qe_meth (okf_Builder_write_place ih) hr tk (qe_var 0) (qa_cons (qe_meth (okf_Builder_find_place ih) hr tk (qe_var 0) (qa_cons (qe_var 1) qa_nil)) (qa_cons (qe_var 4) qa_nil))))))))
theorem fd_build_add (T : Tx K w mg) (hs : SysB base) (ih : OkC P w K mg base k c) : FD P w K mg base (k + 2) "build_add" (g_build_add c) :=
  fd_mk T.d_build_add T.g_build_add sc_build_add bi_build_add rfl rfl fun cdv A up s H E hr tk pw =>
    (qss_cons (qs_asg sc_build_add.nd 3 (qe_fld ⟨T.k_Language, T.na_Language_adding⟩ (qe_fld ⟨T.k_Builder, T.na_Builder_rules⟩ (qe_var 0)))) (qss_one (qs_if (qt_eq hr.r (qx (qe_var 3)) (qx qe_str)) (qss_one (qs_expr (qe_call (okf_build_set ih) hr tk (qa_cons (qe_var 0) (qa_cons (qe_var 1) (qa_cons (qe_tup (qa_cons qe_str (qa_cons qe_str (qa_cons (qe_tup (qa_cons (qe_var 1) (qa_cons (qe_var 2) qa_nil))) qa_nil)))) qa_nil)))))) (qss_one (qs_if (qt_eq hr.r (qx (qe_var 3)) (qx qe_str)) (qss_cons (qs_asg sc_build_add.nd 4 (qe_meth (okf_Builder_work ih) hr tk (qe_var 0) (qa_cons (qe_var 2) qa_nil))) (qss_cons (qs_asg sc_build_add.nd 5 (qe_meth (okf_Builder_find_place ih) hr tk (qe_var 0) (qa_cons (qe_var 1) qa_nil))) (qss_cons (qs_asg sc_build_add.nd 6 (qe_meth (okf_Builder_read_place ih) hr tk (qe_var 0) (qa_cons (qe_var 5) qa_nil))) (qss_one (qs_expr (qe_meth (okf_Builder_write_place ih) hr tk (qe_var 0) (qa_cons (qe_var 5) (qa_cons (qe_meth (okf_Builder_call ih) hr tk (qe_var 0) (qa_cons qe_str (qa_cons (qe_tup (qa_cons (qe_var 6) (qa_cons (qe_var 4) qa_nil))) qa_nil))) qa_nil)))))))) (qss_one (qs_if (qt_eq hr.r (qx (qe_var 3)) (qx qe_str)) (qss_cons (qs_asg sc_build_add.nd 5 (qe_meth (okf_Builder_find_place ih) hr tk (qe_var 0) (qa_cons (qe_var 1) qa_nil))) (qss_cons (qs_asg sc_build_add.nd 4 (qe_meth (okf_Builder_work ih) hr tk (qe_var 0) (qa_cons (qe_var 2) qa_nil))) (qss_cons (qs_asg sc_build_add.nd 6 (qe_meth (okf_Builder_read_place ih) hr tk (qe_var 0) (qa_cons (qe_var 5) qa_nil))) (qss_one (qs_expr (qe_meth (okf_Builder_write_place ih) hr tk (qe_var 0) (qa_cons (qe_var 5) (qa_cons (qe_meth (okf_Builder_call ih) hr tk (qe_var 0) (qa_cons qe_str (qa_cons (qe_tup (qa_cons (qe_var 6) (qa_cons (qe_var 4) qa_nil))) qa_nil))) qa_nil)))))))) (qss_cons (qs_asg sc_build_add.nd 5 (qe_meth (okf_Builder_find_place ih) hr tk (qe_var 0) (qa_cons (qe_var 1) qa_nil))) (qss_cons (qs_asg sc_build_add.nd 6 (qe_meth (okf_Builder_read_place ih) hr tk (qe_var 0) (qa_cons (qe_var 5) qa_nil))) (qss_cons (qs_asg sc_build_add.nd 4 (qe_meth (okf_Builder_work ih) hr tk (qe_var 0) (qa_cons (qe_var 2) qa_nil))) (qss_one (qs_expr (qe_meth (okf_Builder_write_place ih) hr tk (qe_var 0) (qa_cons (qe_var 5) (qa_cons (qe_meth (okf_Builder_call ih) hr tk (qe_var 0) (qa_cons qe_str (qa_cons (qe_tup (qa_cons (qe_var 6) (qa_cons (qe_var 4) qa_nil))) qa_nil))) qa_nil)))))))))))))))
theorem fd_build_rows (T : Tx K w mg) (hs : SysB base) (ih : OkC P w K mg base k c) : FD P w K mg base (k + 2) "build_rows" (g_build_rows c) :=
  fd_mk T.d_build_rows T.g_build_rows sc_build_rows bi_build_rows rfl rfl fun cdv A up s H E hr tk pw =>
    (qss_one (qs_for pw rfl (qi_seq (qe_var 1)) (qg_name sc_build_rows.nd 2) (qss_one (qs_if (qt_eq hr.r (qx (qe_ix (qx (qe_var 2)) (qx qe_int))) (qx qe_str)) (qss_one (qs_expr (qe_meth (okf_Builder_work ih) hr tk (qe_var 0) (qa_cons (qe_ix (qx (qe_var 2)) (qx qe_int)) qa_nil)))) (qss_one (qs_if (qt_eq hr.r (qx (qe_ix (qx (qe_var 2)) (qx qe_int))) (qx qe_str)) (qss_one (qs_expr (qe_call (okf_build_set ih) hr tk (qa_cons (qe_var 0) (qa_cons (qe_ix (qx (qe_var 2)) (qx qe_int)) (qa_cons (qe_ix (qx (qe_var 2)) (qx qe_int)) qa_nil)))))) (qss_one (qs_if (qt_eq hr.r (qx (qe_ix (qx (qe_var 2)) (qx qe_int))) (qx qe_str)) (qss_one (qs_expr (qe_call (okf_build_add ih) hr tk (qa_cons (qe_var 0) (qa_cons (qe_ix (qx (qe_var 2)) (qx qe_int)) (qa_cons (qe_ix (qx (qe_var 2)) (qx qe_int)) qa_nil)))))) (qss_one (qs_if (qt_eq hr.r (qx (qe_ix (qx (qe_var 2)) (qx qe_int))) (qx qe_str)) (qss_one qs_never) (qss_one (qs_if (qt_eq hr.r (qx (qe_ix (qx (qe_var 2)) (qx qe_int))) (qx qe_str)) (qss_one qs_never) (qss_one (qs_if (qt_eq hr.r (qx (qe_ix (qx (qe_var 2)) (qx qe_int))) (qx qe_str)) (qss_one qs_never) (qss_one (qs_if (qt_eq hr.r (qx (qe_ix (qx (qe_var 2)) (qx qe_int))) (qx qe_str)) (qss_one qs_never) (qss_one qs_never)))))))))))))))))
theorem fd_Program_rows (T : Tx K w mg) (hs : SysB base) (ih : OkC P w K mg base k c) : FM P w K mg base (k + 2) "Program" "rows" [] (g_Program_rows c) :=
  fm_mk T.d_Program_rows T.k_Program T.m_Program_rows sc_Program_rows bi_Program_rows rfl rfl fun cdv A up s H E hr tk pw =>
    (qss_one (qs_ret (qe_fld ⟨T.k_Program, T.na_Program_held⟩ (qe_var 0))))
theorem fd_steps (T : Tx K w mg) (hs : SysB base) (ih : OkC P w K mg base k c) : FD P w K mg base (k + 2) "steps" (g_steps c) :=
  fd_mk T.d_steps T.g_steps sc_steps bi_steps rfl rfl fun cdv A up s H E hr tk pw =>
    (qss_cons (qs_asg sc_steps.nd 2 (qe_mkH (FI.fk (okf_Builder_init ih) (pb_Builder_1 _)) hr tk (qa_cons (qe_var 1) qa_nil))) (qss_cons (qs_expr (qe_call (okf_build_rows ih) hr tk (qa_cons (qe_var 2) (qa_cons (qe_meth0 (okf_Program_rows ih) hr tk (qe_var 0)) qa_nil)))) (qss_one (qs_ret (qe_callTy call_tuple_of cas_tuple T.f_tuple (by decide +kernel) (qxs_cons (qx (qe_fld ⟨T.k_Builder, T.na_Builder_made⟩ (qe_var 2))) qxs_nil))))))
theorem fd_Language_call (T : Tx K w mg) (hs : SysB base) (ih : OkC P w K mg base k c) : FM P w K mg base (k + 2) "Language" "__call__" [] (g_Language_call c) :=
  fm_mk T.d_Language_call T.k_Language T.m_Language_call sc_Language_call bi_Language_call rfl rfl fun cdv A up s H E hr tk pw =>
    (qss_one (qs_ret (qe_call (okf_steps ih) hr tk (qa_cons (qe_var 1) (qa_cons (qe_var 0) qa_nil)))))
theorem fd_l_order (T : Tx K w mg) (hs : SysB base) (ih : OkC P w K mg base k c) : FD P w K mg base (k + 2) "_law_order" (g_l_order c) :=
  fd_mk T.d_l_order T.g_l_order sc_l_order bi_l_order rfl rfl fun cdv A up s H E hr tk pw =>
    (qss_one (qs_ret (qe_if (qt_eq hr.r (qx (qe_var 0)) (qx qe_str)) (qe_frz (qf_rng T.f_list T.f_range (qe_var 1))) (qe_frz (qf_revL (qe_frz (qf_rng T.f_list T.f_range (qe_var 1))))))))
theorem fd_l_box (T : Tx K w mg) (hs : SysB base) (ih : OkC P w K mg base k c) : FD P w K mg base (k + 2) "_law_box" (g_l_box c) :=
  fd_mk T.d_l_box T.g_l_box sc_l_box bi_l_box rfl rfl fun cdv A up s H E hr tk pw =>
    (qss_cons (qs_augI ip_add ips_add (qe_var 0) qe_int qe_int) (qss_cons (qs_expr (qe_hdlM PySem.F.slot_list_append PySem.F.type_list_append mt_append owns_app (qe_ix (qx (qe_var 0)) (qx qe_int)) (qa_cons (qe_add (qx (qe_tup (qa_cons (qe_var 1) (qa_cons (qe_sub (qx (qe_ix (qx (qe_var 0)) (qx qe_int))) (qx qe_int)) qa_nil)))) (qx (qe_var 2))) qa_nil))) (qss_one (qs_ret (qe_sub (qx (qe_ix (qx (qe_var 0)) (qx qe_int))) (qx qe_int))))))
theorem fd_l_call (T : Tx K w mg) (hs : SysB base) (ih : OkC P w K mg base k c) : FD P w K mg base (k + 2) "_law_call" (g_l_call c) :=
  fd_mk T.d_l_call T.g_l_call sc_l_call bi_l_call rfl rfl fun cdv A up s H E hr tk pw =>
    (qss_cons (qs_augI ip_add ips_add (qe_var 0) qe_int qe_int) (qss_cons (qs_expr (qe_hdlM PySem.F.slot_list_append PySem.F.type_list_append mt_append owns_app (qe_ix (qx (qe_var 0)) (qx qe_int)) (qa_cons (qe_tup (qa_cons qe_str (qa_cons (qe_tup (qa_cons (qe_sub (qx (qe_ix (qx (qe_var 0)) (qx qe_int))) (qx qe_int)) qa_nil)) (qa_cons (qe_var 1) (qa_cons (qe_callTy call_tuple_of cas_tuple T.f_tuple (by decide +kernel) (qxs_cons (qx (qe_var 2)) qxs_nil)) qa_nil))))) qa_nil))) (qss_one (qs_ret (qe_sub (qx (qe_ix (qx (qe_var 0)) (qx qe_int))) (qx qe_int))))))
theorem fd_l_work (T : Tx K w mg) (hs : SysB base) (ih : OkC P w K mg base k c) : FD P w K mg base (k + 2) "_law_work" (g_l_work c) :=
  fd_mk T.d_l_work T.g_l_work sc_l_work bi_l_work rfl rfl fun cdv A up s H E hr tk pw =>
    (qss_cons (qs_if (qt_eq hr.r (qx (qe_ix (qx (qe_var 1)) (qx qe_int))) (qx qe_str)) (qss_one (qs_ret (qe_call (okf_l_box ih) hr tk (qa_cons (qe_var 0) (qa_cons qe_str (qa_cons (qe_tup (qa_cons (qe_ix (qx (qe_var 1)) (qx qe_int)) qa_nil)) qa_nil)))))) qss_nil) (qss_cons (qs_if (qt_eq hr.r (qx (qe_ix (qx (qe_var 1)) (qx qe_int))) (qx qe_str)) (qss_one (qs_ret (qe_call (okf_l_box ih) hr tk (qa_cons (qe_var 0) (qa_cons qe_str (qa_cons (qe_tup (qa_cons (qe_ix (qx (qe_var 1)) (qx qe_int)) qa_nil)) qa_nil)))))) qss_nil) (qss_cons (qs_if (qt_eq hr.r (qx (qe_ix (qx (qe_var 1)) (qx qe_int))) (qx qe_str)) (qss_one (qs_ret (qe_call (okf_l_call ih) hr tk (qa_cons (qe_var 0) (qa_cons (qe_ix (qx (qe_var 1)) (qx qe_int)) (qa_cons (qe_call (okf_l_work_all ih) hr tk (qa_cons (qe_var 0) (qa_cons (qe_ix (qx (qe_var 1)) (qx qe_int)) qa_nil))) qa_nil)))))) qss_nil) (qss_cons (qs_asg sc_l_work.nd 2 (qe_call (okf_l_work_all ih) hr tk (qa_cons (qe_var 0) (qa_cons (qe_cut (qx (qe_var 1)) (qo_some qe_int) qo_none) qa_nil)))) (qss_cons (qs_if (qt_eq hr.r (qx (qe_ix (qx (qe_var 1)) (qx qe_int))) (qx qe_str)) (qss_one (qs_ret (qe_call (okf_l_call ih) hr tk (qa_cons (qe_var 0) (qa_cons qe_str (qa_cons (qe_var 2) qa_nil)))))) qss_nil) (qss_one (qs_ret (qe_call (okf_l_box ih) hr tk (qa_cons (qe_var 0) (qa_cons qe_str (qa_cons (qe_callTy call_tuple_of cas_tuple T.f_tuple (by decide +kernel) (qxs_cons (qx (qe_var 2)) qxs_nil)) qa_nil)))))))))))
theorem fd_l_work_all (T : Tx K w mg) (hs : SysB base) (ih : OkC P w K mg base k c) : FD P w K mg base (k + 2) "_law_work_all" (g_l_work_all c) :=
  fd_mk T.d_l_work_all T.g_l_work_all sc_l_work_all bi_l_work_all rfl rfl fun cdv A up s H E hr tk pw =>
    (qss_cons (qs_ownN sc_l_work_all.nd 2 (qn_d qd_nil)) (qss_cons (qs_for pw rfl (qi_seq (qe_call (okf_l_order ih) hr tk (qa_cons (qe_ix (qx (qe_ix (qx (qe_var 0)) (qx qe_int))) (qx qe_int)) (qa_cons (qe_callB call_len cas_len T.f_len (by decide +kernel) (qxs_cons (qx (qe_var 1)) qxs_nil)) qa_nil)))) (qg_name sc_l_work_all.nd 3) (qss_one (qs_dputO hr.r 2 (qe_var 3) (qe_call (okf_l_work ih) hr tk (qa_cons (qe_var 0) (qa_cons (qe_ix (qx (qe_var 1)) (qx (qe_var 3))) qa_nil)))))) (qss_one (qs_ret (qe_frz (qf_lc (own := [("_law_at", 3)]) rfl sc_l_work_all.nd (qi_range1 T.f_range (qa_cons (qe_callB call_len cas_len T.f_len (by decide +kernel) (qxs_cons (qx (qe_var 1)) qxs_nil)) qa_nil)) (blkOk_by (own := [("_law_at", 3)]) (N := ["_law_st", "_law_values", "_law_found", "_law_at"]) (sc := defScope st_l_work_all) (by decide +kernel)) (fun _ _ _ _ _ => (qg_name sc_l_work_all.nd 3)) (fun _ _ _ _ _ => qts_nil) (fun _ _ _ _ _ => (qe_dget hr.r (qx_any 2) (qx (qe_var 3))))))))))
theorem fd_l_find (T : Tx K w mg) (hs : SysB base) (ih : OkC P w K mg base k c) : FD P w K mg base (k + 2) "_law_find" (g_l_find c) :=
  fd_mk T.d_l_find T.g_l_find sc_l_find bi_l_find rfl rfl fun cdv A up s H E hr tk pw =>
    (qss_cons (qs_if (qt_eq hr.r (qx (qe_ix (qx (qe_var 1)) (qx qe_int))) (qx qe_str)) (qss_one (qs_ret (qe_tup (qa_cons (qe_ix (qx (qe_var 1)) (qx qe_int)) (qa_cons (qe_ix (qx (qe_var 1)) (qx qe_int)) qa_nil))))) qss_nil) (qss_one (qs_ret (qe_tup (qa_cons (qe_ix (qx (qe_var 1)) (qx qe_int)) (qa_cons (qe_call (okf_l_work_all ih) hr tk (qa_cons (qe_var 0) (qa_cons (qe_cut (qx (qe_var 1)) (qo_some qe_int) qo_none) qa_nil))) qa_nil))))))
theorem fd_l_store (T : Tx K w mg) (hs : SysB base) (ih : OkC P w K mg base k c) : FD P w K mg base (k + 2) "_law_store" (g_l_store c) :=
  fd_mk T.d_l_store T.g_l_store sc_l_store bi_l_store rfl rfl fun cdv A up s H E hr tk pw =>
    (qss_one (qs_if (qt_eq hr.r (qx (qe_ix (qx (qe_var 1)) (qx qe_int))) (qx qe_str)) (qss_one (qs_expr (qe_hdlM PySem.F.slot_list_append PySem.F.type_list_append mt_append owns_app (qe_ix (qx (qe_var 0)) (qx qe_int)) (qa_cons (qe_tup (qa_cons qe_str (qa_cons (qe_ix (qx (qe_var 1)) (qx qe_int)) (qa_cons (qe_var 2) qa_nil)))) qa_nil)))) (qss_one (qs_if (qt_eq hr.r (qx (qe_ix (qx (qe_var 1)) (qx qe_int))) (qx qe_str)) (qss_one (qs_expr (qe_hdlM PySem.F.slot_list_append PySem.F.type_list_append mt_append owns_app (qe_ix (qx (qe_var 0)) (qx qe_int)) (qa_cons (qe_tup (qa_cons qe_str (qa_cons (qe_ix (qx (qe_ix (qx (qe_var 1)) (qx qe_int))) (qx qe_int)) (qa_cons (qe_ix (qx (qe_ix (qx (qe_var 1)) (qx qe_int))) (qx qe_int)) (qa_cons (qe_var 2) qa_nil))))) qa_nil)))) (qss_one (qs_expr (qe_hdlM PySem.F.slot_list_append PySem.F.type_list_append mt_append owns_app (qe_ix (qx (qe_var 0)) (qx qe_int)) (qa_cons (qe_tup (qa_cons qe_str (qa_cons (qe_tup qa_nil) (qa_cons qe_str (qa_cons (qe_add (qx (qe_callTy call_tuple_of cas_tuple T.f_tuple (by decide +kernel) (qxs_cons (qx (qe_ix (qx (qe_var 1)) (qx qe_int))) qxs_nil))) (qx (qe_tup (qa_cons (qe_var 2) qa_nil)))) qa_nil))))) qa_nil))))))))
theorem fd_l_do_set (T : Tx K w mg) (hs : SysB base) (ih : OkC P w K mg base k c) : FD P w K mg base (k + 2) "_law_do_set" (g_l_do_set c) :=
  fd_mk T.d_l_do_set T.g_l_do_set sc_l_do_set bi_l_do_set rfl rfl fun cdv A up s H E hr tk pw =>
    (qss_one (qs_if (qt_eq hr.r (qx (qe_ix (qx (qe_ix (qx (qe_var 0)) (qx qe_int))) (qx qe_int))) (qx qe_str)) (qss_cons (qs_asg sc_l_do_set.nd 3 (qe_call (okf_l_find ih) hr tk (qa_cons (qe_var 0) (qa_cons (qe_var 1) qa_nil)))) (qss_one (qs_expr (qe_call (okf_l_store ih) hr tk (qa_cons (qe_var 0) (qa_cons (qe_var 3) (qa_cons (qe_call (okf_l_work ih) hr tk (qa_cons (qe_var 0) (qa_cons (qe_var 2) qa_nil))) qa_nil))))))) (qss_cons (qs_asg sc_l_do_set.nd 4 (qe_call (okf_l_work ih) hr tk (qa_cons (qe_var 0) (qa_cons (qe_var 2) qa_nil)))) (qss_one (qs_expr (qe_call (okf_l_store ih) hr tk (qa_cons (qe_var 0) (qa_cons (qe_call (okf_l_find ih) hr tk (qa_cons (qe_var 0) (qa_cons (qe_var 1) qa_nil))) (qa_cons (qe_var 4) qa_nil)))))))))
theorem fd_l_look (T : Tx K w mg) (hs : SysB base) (ih : OkC P w K mg base k c) : FD P w K mg base (k + 2) "_law_look" (g_l_look c) :=
  fd_mk T.d_l_look T.g_l_look sc_l_look bi_l_look rfl rfl fun cdv A up s H E hr tk pw =>
    (qss_cons (qs_if (qt_eq hr.r (qx (qe_ix (qx (qe_var 1)) (qx qe_int))) (qx qe_str)) (qss_one (qs_ret (qe_call (okf_l_box ih) hr tk (qa_cons (qe_var 0) (qa_cons qe_str (qa_cons (qe_tup (qa_cons (qe_ix (qx (qe_var 1)) (qx qe_int)) qa_nil)) qa_nil)))))) qss_nil) (qss_cons (qs_if (qt_eq hr.r (qx (qe_ix (qx (qe_var 1)) (qx qe_int))) (qx qe_str)) (qss_one (qs_ret (qe_call (okf_l_call ih) hr tk (qa_cons (qe_var 0) (qa_cons qe_str (qa_cons (qe_ix (qx (qe_var 1)) (qx qe_int)) qa_nil)))))) qss_nil) (qss_one (qs_ret (qe_call (okf_l_box ih) hr tk (qa_cons (qe_var 0) (qa_cons qe_str (qa_cons (qe_callTy call_tuple_of cas_tuple T.f_tuple (by decide +kernel) (qxs_cons (qx (qe_ix (qx (qe_var 1)) (qx qe_int))) qxs_nil)) qa_nil))))))))
theorem fd_l_do_add (T : Tx K w mg) (hs : SysB base) (ih : OkC P w K mg base k c) : FD P w K mg base (k + 2) "_law_do_add" (g_l_do_add c) :=
  fd_mk T.d_l_do_add T.g_l_do_add sc_l_do_add bi_l_do_add rfl rfl fun cdv A up s H E hr tk pw =>
    (qss_cons (qs_if (qt_eq hr.r (qx (qe_ix (qx (qe_ix (qx (qe_var 0)) (qx qe_int))) (qx qe_int))) (qx qe_str)) (qss_one (qs_ret (qe_call (okf_l_do_set ih) hr tk (qa_cons (qe_var 0) (qa_cons (qe_var 1) (qa_cons (qe_tup (qa_cons qe_str (qa_cons qe_str (qa_cons (qe_tup (qa_cons (qe_var 1) (qa_cons (qe_var 2) qa_nil))) qa_nil)))) qa_nil)))))) qss_nil) (qss_cons (qs_asgG (qe_tup (qa_cons qe_non (qa_cons qe_non (qa_cons qe_non qa_nil)))) (qg_tup rfl (qgs_cons (qg_name sc_l_do_add.nd 3) (qgs_cons (qg_name sc_l_do_add.nd 4) (qgs_cons (qg_name sc_l_do_add.nd 5) qgs_nil))))) (qss_cons (qs_for pw rfl (qi_seq (qe_dget hr.r (qx (qe_frzD (qd_disp (qp_cons qe_str qe_str (qp_cons qe_str qe_str (qp_cons qe_str qe_str qp_nil)))))) (qx (qe_ix (qx (qe_ix (qx (qe_var 0)) (qx qe_int))) (qx qe_int))))) (qg_name sc_l_do_add.nd 6) (qss_one (qs_if (qt_eq hr.r (qx (qe_var 6)) (qx qe_str)) (qss_one (qs_asg sc_l_do_add.nd 3 (qe_call (okf_l_find ih) hr tk (qa_cons (qe_var 0) (qa_cons (qe_var 1) qa_nil))))) (qss_one (qs_if (qt_eq hr.r (qx (qe_var 6)) (qx qe_str)) (qss_one (qs_asg sc_l_do_add.nd 4 (qe_call (okf_l_look ih) hr tk (qa_cons (qe_var 0) (qa_cons (qe_var 3) qa_nil))))) (qss_one (qs_asg sc_l_do_add.nd 5 (qe_call (okf_l_work ih) hr tk (qa_cons (qe_var 0) (qa_cons (qe_var 2) qa_nil)))))))))) (qss_one (qs_ret (qe_call (okf_l_store ih) hr tk (qa_cons (qe_var 0) (qa_cons (qe_var 3) (qa_cons (qe_call (okf_l_call ih) hr tk (qa_cons (qe_var 0) (qa_cons qe_str (qa_cons (qe_frz (qf_lst (qa_cons (qe_var 4) (qa_cons (qe_var 5) qa_nil)))) qa_nil)))) qa_nil)))))))))
theorem fd_l_due (T : Tx K w mg) (hs : SysB base) (ih : OkC P w K mg base k c) : FD P w K mg base (k + 2) "_law_due" (g_l_due c) :=
  fd_mk T.d_l_due T.g_l_due sc_l_due bi_l_due rfl rfl fun cdv A up s H E hr tk pw =>
    (qss_cons (qs_asg sc_l_due.nd 2 (qe_new (qf_lst (qa_cons qe_int (qa_cons (qe_new (qf_lst qa_nil)) (qa_cons (qe_var 0) qa_nil)))))) (qss_cons (qs_for pw rfl (qi_seq (qe_var 1)) (qg_name sc_l_due.nd 3) (qss_one (qs_if (qt_eq hr.r (qx (qe_ix (qx (qe_var 3)) (qx qe_int))) (qx qe_str)) (qss_one (qs_expr (qe_call (okf_l_do_set ih) hr tk (qa_cons (qe_var 2) (qa_cons (qe_ix (qx (qe_var 3)) (qx qe_int)) (qa_cons (qe_ix (qx (qe_var 3)) (qx qe_int)) qa_nil)))))) (qss_one (qs_expr (qe_call (okf_l_do_add ih) hr tk (qa_cons (qe_var 2) (qa_cons (qe_ix (qx (qe_var 3)) (qx qe_int)) (qa_cons (qe_ix (qx (qe_var 3)) (qx qe_int)) qa_nil))))))))) (qss_one (qs_ret (qe_callTy call_tuple_of cas_tuple T.f_tuple (by decide +kernel) (qxs_cons (qx (qe_ix (qx (qe_var 2)) (qx qe_int))) qxs_nil))))))
theorem fd_Language_init (T : Tx K w mg) (hs : SysB base) (ih : OkC P w K mg base k c) : FI P w K mg base (k + 2) "Language" (InB "Language.__init__" st_Language_init ["self", "parts", "single", "many", "adding", "stores", "exchanging"] (fun K => []) (fun K => (dd_Language_init).kws K)) (g_Language_init c) :=
  fi_mk T.d_Language_init T.g_Language T.mk_Language sc_Language_init rfl rfl fun cdv A up s H E hr tk pw =>
    (qss_cons (qs_par rfl sc_Language_init.nd 7 8 (qa_cons (qe_tup (qa_cons (qe_var 1) (qa_cons (qe_var 2) (qa_cons (qe_var 3) (qa_cons (qe_var 4) (qa_cons (qe_var 5) (qa_cons (qe_var 6) qa_nil))))))) (qa_cons qe_int qa_nil))) (qss_cons (qs_for pw rfl (qi_zip T.f_zip (qa_cons (qe_con T.c_CHOICES) (qa_cons (qe_var 7) qa_nil))) (qg_tup rfl (qgs_cons (qg_name sc_Language_init.nd 9) (qgs_cons (qg_name sc_Language_init.nd 10) qgs_nil))) (qss_cons (qs_if (qt_w (qw_or (qt_not (qt_tru (qx (qe_callB call_isiA cas_isi T.f_isinstance (by decide +kernel) (qxs_cons (qx (qe_var 10)) (qxs_cons (qx (qe_ty T.f_str (by decide +kernel))) qxs_nil)))))) (qw_or1 (qt_ni (qx (qe_var 10)) (qx (qe_k (qk_tab T.t_VALUES (qe_var 9)))))))) (qss_one qs_never) qss_nil) (qss_one (qs_asg sc_Language_init.nd 8 (qe_add (qx (qe_mul (qx (qe_var 8)) (qx (qe_callB call_len cas_len T.f_len (by decide +kernel) (qxs_cons (qx (qe_k (qk_tab T.t_VALUES (qe_var 9)))) qxs_nil))))) (qx (qe_tix (qk_tab T.t_VALUES (qe_var 9)) (qe_var 10)))))))) (qss_cons (qs_fld ⟨T.k_Language, T.na_Language_given⟩ (qe_var 0) (qe_var 7)) (qss_cons (qs_fld ⟨T.k_Language, T.na_Language_rank⟩ (qe_var 0) (qe_var 8)) (qss_cons (qs_fld ⟨T.k_Language, T.na_Language_parts⟩ (qe_var 0) (qe_var 1)) (qss_cons (qs_fld ⟨T.k_Language, T.na_Language_single⟩ (qe_var 0) (qe_var 2)) (qss_cons (qs_fld ⟨T.k_Language, T.na_Language_many⟩ (qe_var 0) (qe_var 3)) (qss_cons (qs_fld ⟨T.k_Language, T.na_Language_adding⟩ (qe_var 0) (qe_var 4)) (qss_cons (qs_fld ⟨T.k_Language, T.na_Language_stores⟩ (qe_var 0) (qe_var 5)) (qss_one (qs_fld ⟨T.k_Language, T.na_Language_exchanging⟩ (qe_var 0) (qe_var 6))))))))))))
theorem fd_l_language (T : Tx K w mg) (hs : SysB base) (ih : OkC P w K mg base k c) : FD P w K mg base (k + 2) "_law_language" (g_l_language c) :=
  fd_mk T.d_l_language T.g_l_language sc_l_language bi_l_language rfl rfl fun cdv A up s H E hr tk pw =>
    (qss_one (qs_ret (qe_mkK (okf_Language_init ih) (kb_Language_0 _) hr tk (qkw_cons (qe_ix (qx (qe_var 0)) (qx qe_int)) (qkw_cons (qe_ix (qx (qe_var 0)) (qx qe_int)) (qkw_cons (qe_ix (qx (qe_var 0)) (qx qe_int)) (qkw_cons (qe_ix (qx (qe_var 0)) (qx qe_int)) (qkw_cons (qe_ix (qx (qe_var 0)) (qx qe_int)) (qkw_cons (qe_ix (qx (qe_var 0)) (qx qe_int)) qkw_nil)))))))))
theorem fd_law (T : Tx K w mg) (hs : SysB base) (ih : OkC P w K mg base k c) : FD P w K mg base (k + 2) "law" (g_law c) :=
  fd_mk T.d_law T.g_law sc_law bi_law rfl rfl fun cdv A up s H E hr tk pw =>
    (qss_cons (qs_parB rfl sc_law.nd 1 2 (qb_va (qe_call (okf_l_bag ih) hr tk (qa_cons (qe_var 0) qa_nil)) (qb_own (qn_f (qf_lst qa_nil)) qb_nil))) (qss_cons (qs_for pw rfl (qi_range1 T.f_range (qa_cons qe_int qa_nil)) (qg_name sc_law.nd 3) (qss_cons (qs_par rfl sc_law.nd 4 5 (qa_cons (qe_call (okf_l_choices ih) hr tk (qa_cons (qe_var 1) qa_nil)) (qa_cons (qe_call (okf_l_choices ih) hr tk (qa_cons (qe_var 1) qa_nil)) qa_nil))) (qss_cons (qs_asg sc_law.nd 6 (qe_call (okf_l_room ih) hr tk (qa_cons (qe_var 1) (qa_cons qe_int (qa_cons qe_int (qa_cons qe_int (qa_cons qe_int (qa_cons qe_int qa_nil)))))))) (qss_cons (qs_asg sc_law.nd 7 (qe_call (okf_l_rows ih) hr tk (qa_cons (qe_var 1) (qa_cons (qe_var 6) (qa_cons (qe_add (qx qe_int) (qx (qe_call (okf_l_take ih) hr tk (qa_cons (qe_var 1) (qa_cons qe_int qa_nil))))) (qa_cons (qe_add (qx qe_int) (qx (qe_call (okf_l_take ih) hr tk (qa_cons (qe_var 1) (qa_cons qe_int qa_nil))))) (qa_cons (qe_frz (qf_lst (qa_cons qe_str (qa_cons qe_str (qa_cons qe_str qa_nil))))) qa_nil))))))) (qss_cons (qs_asg sc_law.nd 8 (qe_mk (FI.fk (okf_Program_init ih) (pb_Program_1 _)) hr tk (qa_cons (qe_var 7) qa_nil))) (qss_fz 2 (qss_cons (qs_for pw rfl (qi_seq (qe_var 2)) (qg_tup rfl (qgs_cons (qg_name sc_law.nd 9) (qgs_cons (qg_name sc_law.nd 10) qgs_nil))) (qss_one (qs_if (qt_ne hr.r (qx (qe_callB (call_repr hr hs) cas_repr T.f_repr (by decide +kernel) (qxs_cons (qx (qe_callO 9 (okf_Language_call ih) T.m_Language_call T.fn_Language_call hr tk (qa_cons (qe_var 8) qa_nil))) qxs_nil))) (qx (qe_callB (call_repr hr hs) cas_repr T.f_repr (by decide +kernel) (qxs_cons (qx (qe_call (okf_l_due ih) hr tk (qa_cons (qe_var 10) (qa_cons (qe_var 7) qa_nil)))) qxs_nil)))) (qss_one (qs_ret qe_bl)) qss_nil))) (qss_cons (qs_ownN sc_law.nd 2 (qn_f (qf_lst qa_nil))) (qss_one (qs_for pw rfl (qi_seq (qe_tup (qa_cons (qe_var 4) (qa_cons (qe_var 5) qa_nil)))) (qg_name sc_law.nd 10) (qss_cons (qs_par rfl sc_law.nd 11 9 (qa_cons (qe_call (okf_l_due ih) hr tk (qa_cons (qe_var 10) (qa_cons (qe_var 7) qa_nil))) (qa_cons (qe_call (okf_l_language ih) hr tk (qa_cons (qe_var 10) qa_nil)) qa_nil))) (qss_cons (qs_ownM 2 PySem.F.slot_list_append PySem.F.type_list_append mt_append owns_app (qa_cons (qe_tup (qa_cons (qe_var 9) (qa_cons (qe_var 10) qa_nil))) qa_nil)) (qss_cons (qs_for pw rfl (qi_range1 T.f_range (qa_cons qe_int qa_nil)) (qg_name sc_law.nd 12) (qss_cons (qs_asg sc_law.nd 13 (qe_call (okf_steps ih) hr tk (qa_cons (qe_var 8) (qa_cons (qe_var 9) qa_nil)))) (qss_one (qs_if (qt_w (qw_or (qt_ne hr.r (qx (qe_var 13)) (qx (qe_var 11))) (qw_or1 (qt_ne hr.r (qx (qe_callB (call_repr hr hs) cas_repr T.f_repr (by decide +kernel) (qxs_cons (qx (qe_var 13)) qxs_nil))) (qx (qe_callB (call_repr hr hs) cas_repr T.f_repr (by decide +kernel) (qxs_cons (qx (qe_var 11)) qxs_nil))))))) (qss_one (qs_ret qe_bl)) qss_nil)))) (qss_one (qs_if (qt_ne hr.r (qx (qe_callB (call_repr hr hs) cas_repr T.f_repr (by decide +kernel) (qxs_cons (qx (qe_callO 9 (okf_Language_call ih) T.m_Language_call T.fn_Language_call hr tk (qa_cons (qe_var 8) qa_nil))) qxs_nil))) (qx (qe_callB (call_repr hr hs) cas_repr T.f_repr (by decide +kernel) (qxs_cons (qx (qe_var 11)) qxs_nil)))) (qss_one (qs_ret qe_bl)) qss_nil))))))))))))))) (qss_one (qs_ret qe_bl))))
end
section
variable {P : Program} {w : World} {K : PySem.W.Frag} {mg : Str → Option Value} {base : Heap}
theorem all_ok (T : Tx K w mg) (hs : SysB base) : ∀ n, OkC P w K mg base (2 * n) (calls n)
  | 0 => fun f => match f with
    | .as_tuples => fd_no T.d_as_tuples T.g_as_tuples bi_as_tuples
    | .values_in => fd_no T.d_values_in T.g_values_in bi_values_in
    | .places_in => fd_no T.d_places_in T.g_places_in bi_places_in
    | .parts_of => fd_no T.d_parts_of T.g_parts_of bi_parts_of
    | .all_names => fd_no T.d_all_names T.g_all_names bi_all_names
    | .read_in => fd_no T.d_read_in T.g_read_in bi_read_in
    | .is_made_of => fd_no T.d_is_made_of T.g_is_made_of bi_is_made_of
    | .is_helper => fd_no T.d_is_helper T.g_is_helper bi_is_helper
    | .unset_in => fd_no T.d_unset_in T.g_unset_in bi_unset_in
    | .has_form => fd_no T.d_has_form T.g_has_form bi_has_form
    | .is_list_of => fd_no T.d_is_list_of T.g_is_list_of bi_is_list_of
    | .is_own_name => fd_no T.d_is_own_name T.g_is_own_name bi_is_own_name
    | .is_name => fd_no T.d_is_name T.g_is_name bi_is_name
    | .is_word => fd_no T.d_is_word T.g_is_word bi_is_word
    | .is_sign => fd_no T.d_is_sign T.g_is_sign bi_is_sign
    | .is_expression => fd_no T.d_is_expression T.g_is_expression bi_is_expression
    | .is_place => fd_no T.d_is_place T.g_is_place bi_is_place
    | .is_many => fd_no T.d_is_many T.g_is_many bi_is_many
    | .is_simple_row => fd_no T.d_is_simple_row T.g_is_simple_row bi_is_simple_row
    | .is_any => fd_no T.d_is_any T.g_is_any bi_is_any
    | .is_operand => fd_no T.d_is_operand T.g_is_operand bi_is_operand
    | .blocks_of => fd_no T.d_blocks_of T.g_blocks_of bi_blocks_of
    | .fault_in => fd_no T.d_fault_in T.g_fault_in bi_fault_in
    | .first_fault => fd_no T.d_first_fault T.g_first_fault bi_first_fault
    | .helper_number => fd_no T.d_helper_number T.g_helper_number bi_helper_number
    | .Program_init => fi_no T.d_Program_init T.g_Program T.mk_Program
    | .l_bag => fd_no T.d_l_bag T.g_l_bag bi_l_bag
    | .l_take => fd_no T.d_l_take T.g_l_take bi_l_take
    | .l_names => fd_no T.d_l_names T.g_l_names bi_l_names
    | .l_signs => fd_no T.d_l_signs T.g_l_signs bi_l_signs
    | .l_words => fd_no T.d_l_words T.g_l_words bi_l_words
    | .l_room => fd_no T.d_l_room T.g_l_room bi_l_room
    | .l_one => fd_no T.d_l_one T.g_l_one bi_l_one
    | .l_operand => fd_no T.d_l_operand T.g_l_operand bi_l_operand
    | .l_value => fd_no T.d_l_value T.g_l_value bi_l_value
    | .l_place => fd_no T.d_l_place T.g_l_place bi_l_place
    | .l_row => fd_no T.d_l_row T.g_l_row bi_l_row
    | .l_rows => fd_no T.d_l_rows T.g_l_rows bi_l_rows
    | .l_choices => fd_no T.d_l_choices T.g_l_choices bi_l_choices
    | .Builder_init => fi_no T.d_Builder_init T.g_Builder T.mk_Builder
    | .Builder_fresh => fm_no T.d_Builder_fresh T.k_Builder T.m_Builder_fresh bi_Builder_fresh
    | .Builder_call => fm_no T.d_Builder_call T.k_Builder T.m_Builder_call bi_Builder_call
    | .Builder_read => fm_no T.d_Builder_read T.k_Builder T.m_Builder_read bi_Builder_read
    | .Builder_get_cell => fm_no T.d_Builder_get_cell T.k_Builder T.m_Builder_get_cell bi_Builder_get_cell
    | .Builder_read_place => fm_no T.d_Builder_read_place T.k_Builder T.m_Builder_read_place bi_Builder_read_place
    | .Builder_in_parts => fm_no T.d_Builder_in_parts T.k_Builder T.m_Builder_in_parts bi_Builder_in_parts
    | .Builder_work_all => fm_no T.d_Builder_work_all T.k_Builder T.m_Builder_work_all bi_Builder_work_all
    | .Builder_find_place => fm_no T.d_Builder_find_place T.k_Builder T.m_Builder_find_place bi_Builder_find_place
    | .Builder_work => fm_no T.d_Builder_work T.k_Builder T.m_Builder_work bi_Builder_work
    | .Builder_write_place => fm_no T.d_Builder_write_place T.k_Builder T.m_Builder_write_place bi_Builder_write_place
    | .build_set => fd_no T.d_build_set T.g_build_set bi_build_set
    | .build_add => fd_no T.d_build_add T.g_build_add bi_build_add
    | .build_rows => fd_no T.d_build_rows T.g_build_rows bi_build_rows
    | .Program_rows => fm_no T.d_Program_rows T.k_Program T.m_Program_rows bi_Program_rows
    | .steps => fd_no T.d_steps T.g_steps bi_steps
    | .Language_call => fm_no T.d_Language_call T.k_Language T.m_Language_call bi_Language_call
    | .l_order => fd_no T.d_l_order T.g_l_order bi_l_order
    | .l_box => fd_no T.d_l_box T.g_l_box bi_l_box
    | .l_call => fd_no T.d_l_call T.g_l_call bi_l_call
    | .l_work => fd_no T.d_l_work T.g_l_work bi_l_work
    | .l_work_all => fd_no T.d_l_work_all T.g_l_work_all bi_l_work_all
    | .l_find => fd_no T.d_l_find T.g_l_find bi_l_find
    | .l_store => fd_no T.d_l_store T.g_l_store bi_l_store
    | .l_do_set => fd_no T.d_l_do_set T.g_l_do_set bi_l_do_set
    | .l_look => fd_no T.d_l_look T.g_l_look bi_l_look
    | .l_do_add => fd_no T.d_l_do_add T.g_l_do_add bi_l_do_add
    | .l_due => fd_no T.d_l_due T.g_l_due bi_l_due
    | .Language_init => fi_no T.d_Language_init T.g_Language T.mk_Language
    | .l_language => fd_no T.d_l_language T.g_l_language bi_l_language
    | .law => fd_no T.d_law T.g_law bi_law
  | n + 1 => fun f => match f with
    | .as_tuples => fd_as_tuples T hs (all_ok T hs n)
    | .values_in => fd_values_in T hs (all_ok T hs n)
    | .places_in => fd_places_in T hs (all_ok T hs n)
    | .parts_of => fd_parts_of T hs (all_ok T hs n)
    | .all_names => fd_all_names T hs (all_ok T hs n)
    | .read_in => fd_read_in T hs (all_ok T hs n)
    | .is_made_of => fd_is_made_of T hs (all_ok T hs n)
    | .is_helper => fd_is_helper T hs (all_ok T hs n)
    | .unset_in => fd_unset_in T hs (all_ok T hs n)
    | .has_form => fd_has_form T hs (all_ok T hs n)
    | .is_list_of => fd_is_list_of T hs (all_ok T hs n)
    | .is_own_name => fd_is_own_name T hs (all_ok T hs n)
    | .is_name => fd_is_name T hs (all_ok T hs n)
    | .is_word => fd_is_word T hs (all_ok T hs n)
    | .is_sign => fd_is_sign T hs (all_ok T hs n)
    | .is_expression => fd_is_expression T hs (all_ok T hs n)
    | .is_place => fd_is_place T hs (all_ok T hs n)
    | .is_many => fd_is_many T hs (all_ok T hs n)
    | .is_simple_row => fd_is_simple_row T hs (all_ok T hs n)
    | .is_any => fd_is_any T hs (all_ok T hs n)
    | .is_operand => fd_is_operand T hs (all_ok T hs n)
    | .blocks_of => fd_blocks_of T hs (all_ok T hs n)
    | .fault_in => fd_fault_in T hs (all_ok T hs n)
    | .first_fault => fd_first_fault T hs (all_ok T hs n)
    | .helper_number => fd_helper_number T hs (all_ok T hs n)
    | .Program_init => fd_Program_init T hs (all_ok T hs n)
    | .l_bag => fd_l_bag T hs (all_ok T hs n)
    | .l_take => fd_l_take T hs (all_ok T hs n)
    | .l_names => fd_l_names T hs (all_ok T hs n)
    | .l_signs => fd_l_signs T hs (all_ok T hs n)
    | .l_words => fd_l_words T hs (all_ok T hs n)
    | .l_room => fd_l_room T hs (all_ok T hs n)
    | .l_one => fd_l_one T hs (all_ok T hs n)
    | .l_operand => fd_l_operand T hs (all_ok T hs n)
    | .l_value => fd_l_value T hs (all_ok T hs n)
    | .l_place => fd_l_place T hs (all_ok T hs n)
    | .l_row => fd_l_row T hs (all_ok T hs n)
    | .l_rows => fd_l_rows T hs (all_ok T hs n)
    | .l_choices => fd_l_choices T hs (all_ok T hs n)
    | .Builder_init => fd_Builder_init T hs (all_ok T hs n)
    | .Builder_fresh => fd_Builder_fresh T hs (all_ok T hs n)
    | .Builder_call => fd_Builder_call T hs (all_ok T hs n)
    | .Builder_read => fd_Builder_read T hs (all_ok T hs n)
    | .Builder_get_cell => fd_Builder_get_cell T hs (all_ok T hs n)
    | .Builder_read_place => fd_Builder_read_place T hs (all_ok T hs n)
    | .Builder_in_parts => fd_Builder_in_parts T hs (all_ok T hs n)
    | .Builder_work_all => fd_Builder_work_all T hs (all_ok T hs n)
    | .Builder_find_place => fd_Builder_find_place T hs (all_ok T hs n)
    | .Builder_work => fd_Builder_work T hs (all_ok T hs n)
    | .Builder_write_place => fd_Builder_write_place T hs (all_ok T hs n)
    | .build_set => fd_build_set T hs (all_ok T hs n)
    | .build_add => fd_build_add T hs (all_ok T hs n)
    | .build_rows => fd_build_rows T hs (all_ok T hs n)
    | .Program_rows => fd_Program_rows T hs (all_ok T hs n)
    | .steps => fd_steps T hs (all_ok T hs n)
    | .Language_call => fd_Language_call T hs (all_ok T hs n)
    | .l_order => fd_l_order T hs (all_ok T hs n)
    | .l_box => fd_l_box T hs (all_ok T hs n)
    | .l_call => fd_l_call T hs (all_ok T hs n)
    | .l_work => fd_l_work T hs (all_ok T hs n)
    | .l_work_all => fd_l_work_all T hs (all_ok T hs n)
    | .l_find => fd_l_find T hs (all_ok T hs n)
    | .l_store => fd_l_store T hs (all_ok T hs n)
    | .l_do_set => fd_l_do_set T hs (all_ok T hs n)
    | .l_look => fd_l_look T hs (all_ok T hs n)
    | .l_do_add => fd_l_do_add T hs (all_ok T hs n)
    | .l_due => fd_l_due T hs (all_ok T hs n)
    | .Language_init => fd_Language_init T hs (all_ok T hs n)
    | .l_language => fd_l_language T hs (all_ok T hs n)
    | .law => fd_law T hs (all_ok T hs n)
theorem ok_law {fd : FuncData} (T : Tx K w mg) (hs : SysB base) (F : FunD K "law" "law" (defArgs st_law) (defBody st_law) (defScope st_law) [] [] (He.ga K "law") fd) : FnG P w K mg base (2 * (40 + 1)) (He.ga K "law") fd ["_law_script"] (spD K (calls (40 + 1) .law)) :=
  have ih : OkC P w K mg base (2 * 40) (calls 40) := all_ok T hs 40
  fn_mk (k := 2 * 40 + 1) (fb := fb_law (calls 40)) F sc_law fun cdv A up s H E hr tk pw =>
    (qss_cons (qs_parB rfl sc_law.nd 1 2 (qb_va (qe_call (okf_l_bag ih) hr tk (qa_cons (qe_var 0) qa_nil)) (qb_own (qn_f (qf_lst qa_nil)) qb_nil))) (qss_cons (qs_for pw rfl (qi_range1 T.f_range (qa_cons qe_int qa_nil)) (qg_name sc_law.nd 3) (qss_cons (qs_par rfl sc_law.nd 4 5 (qa_cons (qe_call (okf_l_choices ih) hr tk (qa_cons (qe_var 1) qa_nil)) (qa_cons (qe_call (okf_l_choices ih) hr tk (qa_cons (qe_var 1) qa_nil)) qa_nil))) (qss_cons (qs_asg sc_law.nd 6 (qe_call (okf_l_room ih) hr tk (qa_cons (qe_var 1) (qa_cons qe_int (qa_cons qe_int (qa_cons qe_int (qa_cons qe_int (qa_cons qe_int qa_nil)))))))) (qss_cons (qs_asg sc_law.nd 7 (qe_call (okf_l_rows ih) hr tk (qa_cons (qe_var 1) (qa_cons (qe_var 6) (qa_cons (qe_add (qx qe_int) (qx (qe_call (okf_l_take ih) hr tk (qa_cons (qe_var 1) (qa_cons qe_int qa_nil))))) (qa_cons (qe_add (qx qe_int) (qx (qe_call (okf_l_take ih) hr tk (qa_cons (qe_var 1) (qa_cons qe_int qa_nil))))) (qa_cons (qe_frz (qf_lst (qa_cons qe_str (qa_cons qe_str (qa_cons qe_str qa_nil))))) qa_nil))))))) (qss_cons (qs_asg sc_law.nd 8 (qe_mk (FI.fk (okf_Program_init ih) (pb_Program_1 _)) hr tk (qa_cons (qe_var 7) qa_nil))) (qss_fz 2 (qss_cons (qs_for pw rfl (qi_seq (qe_var 2)) (qg_tup rfl (qgs_cons (qg_name sc_law.nd 9) (qgs_cons (qg_name sc_law.nd 10) qgs_nil))) (qss_one (qs_if (qt_ne hr.r (qx (qe_callB (call_repr hr hs) cas_repr T.f_repr (by decide +kernel) (qxs_cons (qx (qe_callO 9 (okf_Language_call ih) T.m_Language_call T.fn_Language_call hr tk (qa_cons (qe_var 8) qa_nil))) qxs_nil))) (qx (qe_callB (call_repr hr hs) cas_repr T.f_repr (by decide +kernel) (qxs_cons (qx (qe_call (okf_l_due ih) hr tk (qa_cons (qe_var 10) (qa_cons (qe_var 7) qa_nil)))) qxs_nil)))) (qss_one (qs_ret qe_bl)) qss_nil))) (qss_cons (qs_ownN sc_law.nd 2 (qn_f (qf_lst qa_nil))) (qss_one (qs_for pw rfl (qi_seq (qe_tup (qa_cons (qe_var 4) (qa_cons (qe_var 5) qa_nil)))) (qg_name sc_law.nd 10) (qss_cons (qs_par rfl sc_law.nd 11 9 (qa_cons (qe_call (okf_l_due ih) hr tk (qa_cons (qe_var 10) (qa_cons (qe_var 7) qa_nil))) (qa_cons (qe_call (okf_l_language ih) hr tk (qa_cons (qe_var 10) qa_nil)) qa_nil))) (qss_cons (qs_ownM 2 PySem.F.slot_list_append PySem.F.type_list_append mt_append owns_app (qa_cons (qe_tup (qa_cons (qe_var 9) (qa_cons (qe_var 10) qa_nil))) qa_nil)) (qss_cons (qs_for pw rfl (qi_range1 T.f_range (qa_cons qe_int qa_nil)) (qg_name sc_law.nd 12) (qss_cons (qs_asg sc_law.nd 13 (qe_call (okf_steps ih) hr tk (qa_cons (qe_var 8) (qa_cons (qe_var 9) qa_nil)))) (qss_one (qs_if (qt_w (qw_or (qt_ne hr.r (qx (qe_var 13)) (qx (qe_var 11))) (qw_or1 (qt_ne hr.r (qx (qe_callB (call_repr hr hs) cas_repr T.f_repr (by decide +kernel) (qxs_cons (qx (qe_var 13)) qxs_nil))) (qx (qe_callB (call_repr hr hs) cas_repr T.f_repr (by decide +kernel) (qxs_cons (qx (qe_var 11)) qxs_nil))))))) (qss_one (qs_ret qe_bl)) qss_nil)))) (qss_one (qs_if (qt_ne hr.r (qx (qe_callB (call_repr hr hs) cas_repr T.f_repr (by decide +kernel) (qxs_cons (qx (qe_callO 9 (okf_Language_call ih) T.m_Language_call T.fn_Language_call hr tk (qa_cons (qe_var 8) qa_nil))) qxs_nil))) (qx (qe_callB (call_repr hr hs) cas_repr T.f_repr (by decide +kernel) (qxs_cons (qx (qe_var 11)) qxs_nil)))) (qss_one (qs_ret qe_bl)) qss_nil))))))))))))))) (qss_one (qs_ret qe_bl))))
end
theorem tx_mk {K : PySem.W.Frag} {w : World} {h : Heap} {mg : Str → Option Value} (KX : K.In h) (G : h.Ns mainGlobals mg) (c : SaysN fa fn ts w K) : Tx K w mg :=
  ⟨He.free_ok KX G (c.fact 0 (f := .free "abs") rfl), He.free_ok KX G (c.fact 1 (f := .free "bool") rfl), He.free_ok KX G (c.fact 2 (f := .free "dict") rfl), He.free_ok KX G (c.fact 3 (f := .free "enumerate") rfl), He.free_ok KX G (c.fact 4 (f := .free "int") rfl), He.free_ok KX G (c.fact 5 (f := .free "isinstance") rfl), He.free_ok KX G (c.fact 6 (f := .free "len") rfl), He.free_ok KX G (c.fact 7 (f := .free "list") rfl), He.free_ok KX G (c.fact 8 (f := .free "range") rfl), He.free_ok KX G (c.fact 9 (f := .free "repr") rfl), He.free_ok KX G (c.fact 10 (f := .free "str") rfl), He.free_ok KX G (c.fact 11 (f := .free "tuple") rfl), He.free_ok KX G (c.fact 12 (f := .free "zip") rfl), con_ok KX G (c.fact 13 (f := .con "DIGITS" c_DIGITS) rfl), con_ok KX G (c.fact 14 (f := .con "LETTERS" c_LETTERS) rfl), con_ok KX G (c.fact 15 (f := .con "RESERVED" c_RESERVED) rfl), con_ok KX G (c.fact 16 (f := .con "CHOICES" c_CHOICES) rfl), He.glo_ok KX G (c.fact 17 (f := .glo "as_tuples") rfl), He.glo_ok KX G (c.fact 18 (f := .glo "values_in") rfl), He.glo_ok KX G (c.fact 19 (f := .glo "places_in") rfl), He.glo_ok KX G (c.fact 20 (f := .glo "parts_of") rfl), He.glo_ok KX G (c.fact 21 (f := .glo "all_names") rfl), He.glo_ok KX G (c.fact 22 (f := .glo "read_in") rfl), He.glo_ok KX G (c.fact 23 (f := .glo "is_made_of") rfl), He.glo_ok KX G (c.fact 24 (f := .glo "is_helper") rfl), He.glo_ok KX G (c.fact 25 (f := .glo "unset_in") rfl), He.glo_ok KX G (c.fact 26 (f := .glo "has_form") rfl), He.glo_ok KX G (c.fact 27 (f := .glo "is_list_of") rfl), He.glo_ok KX G (c.fact 28 (f := .glo "is_own_name") rfl), He.glo_ok KX G (c.fact 29 (f := .glo "is_name") rfl), He.glo_ok KX G (c.fact 30 (f := .glo "is_word") rfl), He.glo_ok KX G (c.fact 31 (f := .glo "is_sign") rfl), He.glo_ok KX G (c.fact 32 (f := .glo "is_expression") rfl), He.glo_ok KX G (c.fact 33 (f := .glo "is_place") rfl), He.glo_ok KX G (c.fact 34 (f := .glo "is_many") rfl), He.glo_ok KX G (c.fact 35 (f := .glo "is_simple_row") rfl), He.glo_ok KX G (c.fact 36 (f := .glo "is_any") rfl), He.glo_ok KX G (c.fact 37 (f := .glo "is_operand") rfl), He.glo_ok KX G (c.fact 38 (f := .glo "blocks_of") rfl), He.glo_ok KX G (c.fact 39 (f := .glo "fault_in") rfl), He.glo_ok KX G (c.fact 40 (f := .glo "first_fault") rfl), He.glo_ok KX G (c.fact 41 (f := .glo "helper_number") rfl), He.glo_ok KX G (c.fact 42 (f := .glo "_law_bag") rfl), He.glo_ok KX G (c.fact 43 (f := .glo "_law_take") rfl), He.glo_ok KX G (c.fact 44 (f := .glo "_law_names") rfl), He.glo_ok KX G (c.fact 45 (f := .glo "_law_signs") rfl), He.glo_ok KX G (c.fact 46 (f := .glo "_law_words") rfl), He.glo_ok KX G (c.fact 47 (f := .glo "_law_room") rfl), He.glo_ok KX G (c.fact 48 (f := .glo "_law_one") rfl), He.glo_ok KX G (c.fact 49 (f := .glo "_law_operand") rfl), He.glo_ok KX G (c.fact 50 (f := .glo "_law_value") rfl), He.glo_ok KX G (c.fact 51 (f := .glo "_law_place") rfl), He.glo_ok KX G (c.fact 52 (f := .glo "_law_row") rfl), He.glo_ok KX G (c.fact 53 (f := .glo "_law_rows") rfl), He.glo_ok KX G (c.fact 54 (f := .glo "_law_choices") rfl), He.glo_ok KX G (c.fact 55 (f := .glo "build_set") rfl), He.glo_ok KX G (c.fact 56 (f := .glo "build_add") rfl), He.glo_ok KX G (c.fact 57 (f := .glo "build_rows") rfl), He.glo_ok KX G (c.fact 58 (f := .glo "steps") rfl), He.glo_ok KX G (c.fact 59 (f := .glo "_law_order") rfl), He.glo_ok KX G (c.fact 60 (f := .glo "_law_box") rfl), He.glo_ok KX G (c.fact 61 (f := .glo "_law_call") rfl), He.glo_ok KX G (c.fact 62 (f := .glo "_law_work") rfl), He.glo_ok KX G (c.fact 63 (f := .glo "_law_work_all") rfl), He.glo_ok KX G (c.fact 64 (f := .glo "_law_find") rfl), He.glo_ok KX G (c.fact 65 (f := .glo "_law_store") rfl), He.glo_ok KX G (c.fact 66 (f := .glo "_law_do_set") rfl), He.glo_ok KX G (c.fact 67 (f := .glo "_law_look") rfl), He.glo_ok KX G (c.fact 68 (f := .glo "_law_do_add") rfl), He.glo_ok KX G (c.fact 69 (f := .glo "_law_due") rfl), He.glo_ok KX G (c.fact 70 (f := .glo "_law_language") rfl), He.glo_ok KX G (c.fact 71 (f := .glo "law") rfl), He.glo_ok KX G (c.fact 72 (f := .glo "Builder") rfl), He.glo_ok KX G (c.fact 73 (f := .glo "Language") rfl), He.glo_ok KX G (c.fact 74 (f := .glo "Program") rfl), cls_f (c.fact 75 (f := faB (.cls "Builder")) rfl), cls_f (c.fact 76 (f := faB (.cls "Language")) rfl), cls_f (c.fact 77 (f := faB (.cls "Program")) rfl), mkr_f (c.fact 78 (f := faB (.mkr "Builder")) rfl), mkr_f (c.fact 79 (f := faB (.mkr "Language")) rfl), mkr_f (c.fact 80 (f := faB (.mkr "Program")) rfl), noat_f (c.fact 81 (f := faB (.noat "Builder" "boxes")) rfl), noat_f (c.fact 82 (f := faB (.noat "Builder" "made")) rfl), noat_f (c.fact 83 (f := faB (.noat "Builder" "rules")) rfl), noat_f (c.fact 84 (f := faB (.noat "Language" "adding")) rfl), noat_f (c.fact 85 (f := faB (.noat "Language" "exchanging")) rfl), noat_f (c.fact 86 (f := faB (.noat "Language" "given")) rfl), noat_f (c.fact 87 (f := faB (.noat "Language" "many")) rfl), noat_f (c.fact 88 (f := faB (.noat "Language" "parts")) rfl), noat_f (c.fact 89 (f := faB (.noat "Language" "rank")) rfl), noat_f (c.fact 90 (f := faB (.noat "Language" "single")) rfl), noat_f (c.fact 91 (f := faB (.noat "Language" "stores")) rfl), noat_f (c.fact 92 (f := faB (.noat "Program" "held")) rfl), fnm_f (c.fact 93 (f := fnmB "Language" "__call__") rfl), meth_f (c.fact 94 (f := faB (.meth "Builder" "fresh")) rfl), meth_f (c.fact 95 (f := faB (.meth "Builder" "call")) rfl), meth_f (c.fact 96 (f := faB (.meth "Builder" "read")) rfl), meth_f (c.fact 97 (f := faB (.meth "Builder" "get_cell")) rfl), meth_f (c.fact 98 (f := faB (.meth "Builder" "read_place")) rfl), meth_f (c.fact 99 (f := faB (.meth "Builder" "in_parts")) rfl), meth_f (c.fact 100 (f := faB (.meth "Builder" "work_all")) rfl), meth_f (c.fact 101 (f := faB (.meth "Builder" "find_place")) rfl), meth_f (c.fact 102 (f := faB (.meth "Builder" "work")) rfl), meth_f (c.fact 103 (f := faB (.meth "Builder" "write_place")) rfl), meth_f (c.fact 104 (f := faB (.meth "Program" "rows")) rfl), meth_f (c.fact 105 (f := faB (.meth "Language" "__call__")) rfl), tab_ok KX G (c.fact 106 (f := .glo "VALUES") rfl) (c.fact 107 (f := tabB "VALUES" t_VALUES) rfl) (c.tab 0 (t := tt_VALUES) rfl), c.def_ 0 (d := dd_as_tuples) rfl, c.def_ 1 (d := dd_values_in) rfl, c.def_ 2 (d := dd_places_in) rfl, c.def_ 3 (d := dd_parts_of) rfl, c.def_ 4 (d := dd_all_names) rfl, c.def_ 5 (d := dd_read_in) rfl, c.def_ 6 (d := dd_is_made_of) rfl, c.def_ 7 (d := dd_is_helper) rfl, c.def_ 8 (d := dd_unset_in) rfl, c.def_ 9 (d := dd_has_form) rfl, c.def_ 10 (d := dd_is_list_of) rfl, c.def_ 11 (d := dd_is_own_name) rfl, c.def_ 12 (d := dd_is_name) rfl, c.def_ 13 (d := dd_is_word) rfl, c.def_ 14 (d := dd_is_sign) rfl, c.def_ 15 (d := dd_is_expression) rfl, c.def_ 16 (d := dd_is_place) rfl, c.def_ 17 (d := dd_is_many) rfl, c.def_ 18 (d := dd_is_simple_row) rfl, c.def_ 19 (d := dd_is_any) rfl, c.def_ 20 (d := dd_is_operand) rfl, c.def_ 21 (d := dd_blocks_of) rfl, c.def_ 22 (d := dd_fault_in) rfl, c.def_ 23 (d := dd_first_fault) rfl, c.def_ 24 (d := dd_helper_number) rfl, c.def_ 25 (d := dd_Program_init) rfl, c.def_ 26 (d := dd_l_bag) rfl, c.def_ 27 (d := dd_l_take) rfl, c.def_ 28 (d := dd_l_names) rfl, c.def_ 29 (d := dd_l_signs) rfl, c.def_ 30 (d := dd_l_words) rfl, c.def_ 31 (d := dd_l_room) rfl, c.def_ 32 (d := dd_l_one) rfl, c.def_ 33 (d := dd_l_operand) rfl, c.def_ 34 (d := dd_l_value) rfl, c.def_ 35 (d := dd_l_place) rfl, c.def_ 36 (d := dd_l_row) rfl, c.def_ 37 (d := dd_l_rows) rfl, c.def_ 38 (d := dd_l_choices) rfl, c.def_ 39 (d := dd_Builder_init) rfl, c.def_ 40 (d := dd_Builder_fresh) rfl, c.def_ 41 (d := dd_Builder_call) rfl, c.def_ 42 (d := dd_Builder_read) rfl, c.def_ 43 (d := dd_Builder_get_cell) rfl, c.def_ 44 (d := dd_Builder_read_place) rfl, c.def_ 45 (d := dd_Builder_in_parts) rfl, c.def_ 46 (d := dd_Builder_work_all) rfl, c.def_ 47 (d := dd_Builder_find_place) rfl, c.def_ 48 (d := dd_Builder_work) rfl, c.def_ 49 (d := dd_Builder_write_place) rfl, c.def_ 50 (d := dd_build_set) rfl, c.def_ 51 (d := dd_build_add) rfl, c.def_ 52 (d := dd_build_rows) rfl, c.def_ 53 (d := dd_Program_rows) rfl, c.def_ 54 (d := dd_steps) rfl, c.def_ 55 (d := dd_Language_call) rfl, c.def_ 56 (d := dd_l_order) rfl, c.def_ 57 (d := dd_l_box) rfl, c.def_ 58 (d := dd_l_call) rfl, c.def_ 59 (d := dd_l_work) rfl, c.def_ 60 (d := dd_l_work_all) rfl, c.def_ 61 (d := dd_l_find) rfl, c.def_ 62 (d := dd_l_store) rfl, c.def_ 63 (d := dd_l_do_set) rfl, c.def_ 64 (d := dd_l_look) rfl, c.def_ 65 (d := dd_l_do_add) rfl, c.def_ 66 (d := dd_l_due) rfl, c.def_ 67 (d := dd_Language_init) rfl, c.def_ 68 (d := dd_l_language) rfl, c.def_ 69 (d := dd_law) rfl⟩
end Row
open PySem PySem.W PySem.Calls PyProof.Rows
theorem PySem.Challenge.cw_foundtwice_k24_steps_of_set_and_add_holds : PySem.Challenge.rw_foundtwice_k24_steps_of_set_and_add.Holds := by
  w_on; o_law
  refine HandSHeadRun.head_any (r := OpenLaw.row PySem.Challenge.rw_foundtwice_k24_steps_of_set_and_add) (q := view (OpenLaw.row PySem.Challenge.rw_foundtwice_k24_steps_of_set_and_add).prog [87]) (H := Row.hk) (ob := Row.ob) (M := 20000) (loose := Row.loose) (d := HandSHeadRun.topDef (OpenLaw.row PySem.Challenge.rw_foundtwice_k24_steps_of_set_and_add).prog 87) (kwd := []) Row.ob_eq
    (by kernel_rfl) (fun s => by kernel_rfl) Row.run (by kernel_rfl) (by kernel_rfl) (by kernel_rfl) (by rfl) (by first | assumption | decide +kernel) (by decide +kernel) ⟨rfl, rfl, rfl, rfl, rfl, by decide +kernel⟩ ?hw ?hc
  case hw => w_witness2
  case hc =>
    refine DL.walk_g (l := PySem.Challenge.rw_foundtwice_k24_steps_of_set_and_add) (n := 63) (k := 2 * (40 + 1)) (x := "_law_script") rfl (by decide) (by kernel_rfl) (by kernel_rfl) ⟨⟨rfl, by decide, by decide⟩, rfl⟩ ?F
    intro w mg fa h Y G hmg0
    obtain ⟨K, KX, c⟩ := Y
    have hmg : mg ("law" : PySem.Str) = some (.ref fa) := by
      have e : (HandSHeadRun.topDef (OpenLaw.row PySem.Challenge.rw_foundtwice_k24_steps_of_set_and_add).prog 87).name = ("law" : PySem.Str) := by kernel_rfl
      rw [← e]
      exact hmg0
    have T := Row.tx_mk KX G c
    have e := hmg.symm.trans T.g_law
    cases e
    obtain ⟨fd, F⟩ := T.d_law
    have b := L2.FunD.bindsA (ps := ["_law_script"]) F fun _ _ _ _ _ _ us hl => match us, hl with | [_], _ => rfl
    exact ⟨K, fd, DL.spD K (DL.calls (40 + 1) .law), KX, fun s v => b s [v] rfl, fun H a ns hl hS => DL.law_end DL.law_true H a ns hl hS, fun base _ _ hs => Row.ok_law T hs F⟩
