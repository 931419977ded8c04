import PyProof.Rows.All
import Wide.All
import OpenK.AllK
import Wide.FinOn
import HandS.ForMost
import HandS.Exc
import HandS.Defaults
import HandS.IsInst
import HandS.Flow
import HandS.Wide
import HandS.Codes
import HandS.TupAny
import HandS.Style
import HandS.CallSlots
import HandS.HeadHook1
import HandS.HeadHook2
import HandS.Head0
import HandS.Head1
import HandS.Head2
import HandS.HeadEnd
import HandS.More
import HandS.MakeKwOnly
import HandS.Property
import HandS.ClsMeth
import HandS.HeadHook3
import HandS.Strs
import KE.KRevSl
import HandS.HeadNt
import KE.GoesZip
import KE.GoesMore
import KE.GoesEnum
import HandS.Sort
import HandS.RaiseMore
import HandS.Set
import HandS.SetFor
import PyProof.Rows.SortShellAny
import PyProof.Rows.StrMeet
import PyProof.P3Eq
import HandS.OwnEq
import HandS.ExcInit
import HandS.ExcField
import KE.KExcIs
import HandS.ExcIs
import KE.KCallOwn
import HandS.Conv
import HandS.DictComp
import KE.KOpsOwn
import HandS.TryOnly
import HandS.ListItems
import HandS.DeepEq
import KE.KStateDown
import Lean
import PySem.Challenge.RW_foundtwice_k65_is_border_both_ways
set_option Elab.async false
set_option linter.all false
set_option maxRecDepth 100000
set_option maxHeartbeats 0
namespace DL
open PySem L2
inductive Dv where
  | non | bl (b : Bool) | int (i : Int) | str (x : Str) | tup (l : List Dv) | lst (l : List Dv) | rol (l : List Dv) | dic (l : List (Key × Dv)) | obj (c : Str) (fs : List (Str × Dv)) | hdl (k : Nat) | glo (x : Str) | ty (n : String)
inductive Ob where
  | lst (l : List Dv) | dct (l : List (Key × Dv)) | ins (c : Str) (fs : List (Str × Dv))
abbrev Sto := List Ob
inductive Sl where
  | no | va (d : Dv) | own (o : Ob)
abbrev Sl.ow (l : List Dv) : Sl := .own (.lst l)
abbrev Sl.od (l : List (Key × Dv)) : Sl := .own (.dct l)
abbrev Sl.oi (c : Str) (fs : List (Str × Dv)) : Sl := .own (.ins c fs)
abbrev Env := List Sl
/-- a tuple of the top -/
def TK (K : PySem.W.Frag) (a : Addr) (xs : List V) : Prop := (∀ H', SqT K H' a xs) ∧ ∃ o, K.lookup a = some o ∧ o.cls = .type "tuple" ∧ o.dict = none
section
variable (K : PySem.W.Frag) (L : Addr → Prop) (io : List Addr) (H : Hp)
mutual
inductive VR : V → Dv → Prop
  | non : VR .non .non
  | bl (b : Bool) : VR (.bl b) (.bl b)
  | int (i : Int) : VR (.int i) (.int i)
  | str (x : Str) : VR (.str x) (.str x)
  | tup {a : Addr} {xs : List V} {ds : List Dv} : ¬ L a → H a = some (.tup xs) → VRs xs ds → VR (.ref a) (.tup ds)
  | tupK {a : Addr} {xs : List V} {ds : List Dv} : TK K a xs → VRs xs ds → VR (.ref a) (.tup ds)
  | lst {a : Addr} {xs : List V} {ds : List Dv} : ¬ L a → H a = some (.lst xs) → VRs xs ds → VR (.ref a) (.lst ds)
  | rol {a : Addr} {xs : List V} {ds : List Dv} : ¬ L a → Rd H a (.lst xs) → VRs xs ds → VR (.ref a) (.rol ds)
  | rolK {a : Addr} {xs : List V} {ds : List Dv} : (∀ H', SqL K H' a xs) → VRs xs ds → VR (.ref a) (.rol ds)
  | dic {a : Addr} {kvs : List (Key × V)} {l : List (Key × Dv)} : ¬ L a → Rd H a (.dK kvs) → VRp kvs l → VR (.ref a) (.dic l)
  | obj {a dx : Addr} {c : Str} {vs : List (Str × V)} {fs : List (Str × Dv)} : ¬ L a → H a = some (.ins (He.ga K c) dx vs) → VRf vs fs → VR (.ref a) (.obj c fs)
  | hdl {a : Addr} {k : Nat} : io[k]? = some a → VR (.ref a) (.hdl k)
  | glo (x : Str) : VR (.ref (He.ga K x)) (.glo x)
  | ty (n : String) : VR (.ty n) (.ty n)
inductive VRs : List V → List Dv → Prop
  | nil : VRs [] []
  | cons {v : V} {vs : List V} {d : Dv} {ds : List Dv} : VR v d → VRs vs ds → VRs (v :: vs) (d :: ds)
inductive VRp : List (Key × V) → List (Key × Dv) → Prop
  | nil : VRp [] []
  | cons {k : Key} {v : V} {vs : List (Key × V)} {d : Dv} {ds : List (Key × Dv)} : VR v d → VRp vs ds → VRp ((k, v) :: vs) ((k, d) :: ds)
inductive VRf : List (Str × V) → List (Str × Dv) → Prop
  | nil : VRf [] []
  | cons {k : Str} {v : V} {vs : List (Str × V)} {d : Dv} {ds : List (Str × Dv)} : VR v d → VRf vs ds → VRf ((k, v) :: vs) ((k, d) :: ds)
end
end
/-- from one state to a later one: handles are added, what is new is fresh, what is no handle's stands -/
structure Stp (L : Addr → Prop) (io : List Addr) (H : Hp) (L' : Addr → Prop) (io' : List Addr) (H' : Hp) : Prop where
  pre : ∃ more, io' = io ++ more
  hn : ∀ x ∈ io', x ∈ io ∨ H x = none
  new : ∀ a, L' a → L a ∨ H a = none
  keep : ∀ a o, H a = some o → a ∉ io → H' a = some o
  up : ∀ a, L a → L' a
theorem Stp.refl (L : Addr → Prop) (io : List Addr) (H : Hp) : Stp L io H L io H := ⟨⟨[], by simp⟩, fun _ h => .inl h, fun _ h => .inl h, fun _ _ h _ => h, fun _ h => h⟩
theorem Stp.back {L L1 : Addr → Prop} {io io1 : List Addr} {H H1 : Hp} (a : Stp L io H L1 io1 H1) {x : Addr} (h : H1 x = none) : x ∈ io ∨ H x = none := by
  cases e : H x with
  | none => exact .inr rfl
  | some o =>
    by_cases hx : x ∈ io
    · exact .inl hx
    · rw [a.keep x o e hx] at h
      cases h
theorem Stp.trans {L L1 L2 : Addr → Prop} {io io1 io2 : List Addr} {H H1 H2 : Hp} (a : Stp L io H L1 io1 H1) (b : Stp L1 io1 H1 L2 io2 H2) (sub : ∀ x ∈ io, L x) : Stp L io H L2 io2 H2 where
  pre := by
    obtain ⟨m, rfl⟩ := a.pre
    obtain ⟨m1, rfl⟩ := b.pre
    exact ⟨m ++ m1, by simp⟩
  hn := fun x h => by
    rcases b.hn x h with h1 | h1
    · exact a.hn x h1
    · exact a.back h1
  new := fun x h => by
    rcases b.new x h with h1 | h1
    · exact a.new x h1
    · rcases a.back h1 with z | z
      · exact .inl (sub x z)
      · exact .inr z
  keep := fun x o h hn => by
    refine b.keep x o (a.keep x o h hn) fun hx => ?_
    rcases a.hn x hx with z | z
    · exact hn z
    · rw [z] at h; cases h
  up := fun x h => b.up x (a.up x h)
theorem rd_keep {H H' : Hp} {a : Addr} {u : HO} (r : Rd H a u) (k : ∀ o, H a = some o → H' a = some o) : Rd H' a u := by
  rcases r with r | ⟨o, r⟩
  · exact .inl (k _ r)
  · exact .inr ⟨o, k _ r⟩
theorem rd_some {H : Hp} {a : Addr} {u : HO} (r : Rd H a u) : ∃ o, H a = some o := by
  rcases r with r | ⟨o, r⟩
  · exact ⟨_, r⟩
  · exact ⟨_, r⟩
theorem io_keep {io more : List Addr} {k : Nat} {a : Addr} (h : io[k]? = some a) : (io ++ more)[k]? = some a := by
  have := (List.getElem?_eq_some_iff.mp h).1
  rw [List.getElem?_append_left this]
  exact h
section
variable {K : PySem.W.Frag} {L L' : Addr → Prop} {io io' : List Addr} {H H' : Hp}
/-- the general way on: handles stay, what is not volatile stands and stays not volatile -/
theorem VR.on (hp : ∀ (k : Nat) (a : Addr), io[k]? = some a → io'[k]? = some a) (hl : ∀ a o, H a = some o → ¬ L a → H' a = some o ∧ ¬ L' a) :
    ∀ {v : V} {d : Dv}, VR K L io H v d → VR K L' io' H' v d := by
  intro v d h
  refine VR.rec (motive_1 := fun v d _ => VR K L' io' H' v d) (motive_2 := fun vs ds _ => VRs K L' io' H' vs ds) (motive_3 := fun vs ds _ => VRp K L' io' H' vs ds) (motive_4 := fun vs ds _ => VRf K L' io' H' vs ds) ?_ ?_ ?_ ?_ ?_ ?_ ?_ ?_ ?_ ?_ ?_ ?_ ?_ ?_ ?_ ?_ ?_ ?_ ?_ ?_ h
  · exact .non
  · exact fun b => .bl b
  · exact fun i => .int i
  · exact fun x => .str x
  · intro a xs ds nl e _ ih
    exact .tup (hl a _ e nl).2 (hl a _ e nl).1 ih
  · exact fun h _ ih => .tupK h ih
  · intro a xs ds nl e _ ih
    exact .lst (hl a _ e nl).2 (hl a _ e nl).1 ih
  · intro a xs ds nl r _ ih
    obtain ⟨o, e⟩ := rd_some r
    exact .rol (hl a o e nl).2 (rd_keep r fun o e => (hl a o e nl).1) ih
  · exact fun h _ ih => .rolK h ih
  · intro a xs ds nl r _ ih
    obtain ⟨o, e⟩ := rd_some r
    exact .dic (hl a o e nl).2 (rd_keep r fun o e => (hl a o e nl).1) ih
  · intro a dx c vs fs nl e _ ih
    exact .obj (hl a _ e nl).2 (hl a _ e nl).1 ih
  · exact fun h => .hdl (hp _ _ h)
  · exact fun x => .glo x
  · exact fun n => .ty n
  · exact .nil
  · exact fun _ _ h1 h2 => .cons h1 h2
  · exact .nil
  · exact fun _ _ h1 h2 => .cons h1 h2
  · exact .nil
  · exact fun _ _ h1 h2 => .cons h1 h2
theorem VRs.on (hp : ∀ (k : Nat) (a : Addr), io[k]? = some a → io'[k]? = some a) (hl : ∀ a o, H a = some o → ¬ L a → H' a = some o ∧ ¬ L' a) :
    ∀ {vs : List V} {ds : List Dv}, VRs K L io H vs ds → VRs K L' io' H' vs ds
  | _, _, .nil => .nil
  | _, _, .cons h t => .cons (VR.on hp hl h) (VRs.on hp hl t)
theorem Stp.on (s : Stp L io H L' io' H') (sub : ∀ x ∈ io, L x) : (∀ (k : Nat) (a : Addr), io[k]? = some a → io'[k]? = some a) ∧ (∀ a o, H a = some o → ¬ L a → H' a = some o ∧ ¬ L' a) := by
  refine ⟨fun k a h => ?_, fun a o h nl => ⟨s.keep a o h fun z => nl (sub a z), fun z => ?_⟩⟩
  · obtain ⟨m, rfl⟩ := s.pre
    exact io_keep h
  · rcases s.new a z with q | q
    · exact nl q
    · rw [q] at h; cases h
theorem VR.step {v : V} {d : Dv} (h : VR K L io H v d) (s : Stp L io H L' io' H') (sub : ∀ x ∈ io, L x) : VR K L' io' H' v d := VR.on (s.on sub).1 (s.on sub).2 h
theorem VRs.step {v : List V} {d : List Dv} (h : VRs K L io H v d) (s : Stp L io H L' io' H') (sub : ∀ x ∈ io, L x) : VRs K L' io' H' v d := VRs.on (s.on sub).1 (s.on sub).2 h
theorem VR.less {v : V} {d : Dv} (h : VR K L io H v d) (hl : ∀ a, L' a → L a) : VR K L' io H v d := VR.on (fun _ _ h => h) (fun a o e n => ⟨e, fun z => n (hl a z)⟩) h
theorem VRs.less {v : List V} {d : List Dv} (h : VRs K L io H v d) (hl : ∀ a, L' a → L a) : VRs K L' io H v d := VRs.on (fun _ _ h => h) (fun a o e n => ⟨e, fun z => n (hl a z)⟩) h
/-- a volatile thing is changed -/
theorem VR.mut {v : V} {d : Dv} {p : Addr} {o : HO} (h : VR K L io H v d) (hp : L p) : VR K L io (upd H p o) v d :=
  VR.on (fun _ _ h => h) (fun a u e n => ⟨by rw [upd_ne (fun z => n (by rw [z]; exact hp))]; exact e, n⟩) h
theorem VRs.mut {v : List V} {d : List Dv} {p : Addr} {o : HO} (h : VRs K L io H v d) (hp : L p) : VRs K L io (upd H p o) v d :=
  VRs.on (fun _ _ h => h) (fun a u e n => ⟨by rw [upd_ne (fun z => n (by rw [z]; exact hp))]; exact e, n⟩) h
theorem VRs.mono (m : ∀ v d, VR K L io H v d → VR K L' io' H' v d) : ∀ {vs : List V} {ds : List Dv}, VRs K L io H vs ds → VRs K L' io' H' vs ds
  | _, _, .nil => .nil
  | _, _, .cons h t => .cons (m _ _ h) (VRs.mono m t)
theorem VRs.len : ∀ {vs : List V} {ds : List Dv}, VRs K L io H vs ds → vs.length = ds.length
  | _, _, .nil => rfl
  | _, _, .cons _ t => by rw [List.length_cons, List.length_cons, VRs.len t]
theorem VRs.get : ∀ {vs : List V} {ds : List Dv} {i : Nat} {d : Dv}, VRs K L io H vs ds → ds[i]? = some d → ∃ v, vs[i]? = some v ∧ VR K L io H v d
  | _, _, _, _, .nil, e => by simp at e
  | _, _, 0, _, .cons h _, e => by simp at e; subst e; exact ⟨_, rfl, h⟩
  | _, _, i + 1, _, .cons _ t, e => by
    obtain ⟨v, h1, h2⟩ := VRs.get (i := i) t (by simpa using e)
    exact ⟨v, by simpa using h1, h2⟩
theorem VRs.app : ∀ {vs ws : List V} {ds es : List Dv}, VRs K L io H vs ds → VRs K L io H ws es → VRs K L io H (vs ++ ws) (ds ++ es)
  | _, _, _, _, .nil, h => h
  | _, _, _, _, .cons h t, h2 => .cons h (VRs.app t h2)
theorem VRs.set {v : V} {d : Dv} (h : VR K L io H v d) : ∀ {vs : List V} {ds : List Dv} (i : Nat), VRs K L io H vs ds → VRs K L io H (vs.set i v) (ds.set i d)
  | _, _, _, .nil => .nil
  | _, _, 0, .cons _ t => .cons h t
  | _, _, i + 1, .cons q t => .cons q (VRs.set h i t)
theorem VRs.take : ∀ {vs : List V} {ds : List Dv} (n : Nat), VRs K L io H vs ds → VRs K L io H (vs.take n) (ds.take n)
  | _, _, 0, _ => .nil
  | _, _, _ + 1, .nil => .nil
  | _, _, n + 1, .cons h t => .cons h (VRs.take n t)
theorem VRs.drop : ∀ {vs : List V} {ds : List Dv} (n : Nat), VRs K L io H vs ds → VRs K L io H (vs.drop n) (ds.drop n)
  | _, _, 0, h => h
  | _, _, _ + 1, .nil => .nil
  | _, _, n + 1, .cons _ t => VRs.drop n t
end
def PairR {α : Type} (R : V → Dv → Prop) : List (α × V) → List (α × Dv) → Prop := Paired fun p q => p.1 = q.1 ∧ R p.2 q.2
def ObR (K : PySem.W.Frag) (L : Addr → Prop) (io : List Addr) (H : Hp) (a : Addr) : Ob → Prop
  | .lst l => ∃ xs, H a = some (.lst xs) ∧ VRs K L io H xs l
  | .dct l => ∃ kvs, H a = some (.dK kvs) ∧ PairR (VR K L io H) kvs l
  | .ins c fs => ∃ dx vs, H a = some (.ins (He.ga K c) dx vs) ∧ PairR (VR K L io H) vs fs
theorem PairR.mono {α : Type} {R R' : V → Dv → Prop} (h : ∀ v d, R v d → R' v d) : ∀ {l : List (α × V)} {m : List (α × Dv)}, PairR R l m → PairR R' l m
  | _, _, .nil => .nil
  | _, _, .cons r t => .cons ⟨r.1, h _ _ r.2⟩ (PairR.mono h t)
structure SR (K : PySem.W.Frag) (L : Addr → Prop) (io : List Addr) (H : Hp) (S : Sto) : Prop where
  len : io.length = S.length
  nd : io.Nodup
  sub : ∀ a ∈ io, L a
  dom : ∀ a, L a → H a ≠ none
  obj : ∀ (k : Nat) (a : Addr) (o : Ob), io[k]? = some a → S[k]? = some o → ObR K L io H a o
/-- the state of a frame: entered at L0, io0, H0 -/
structure FR (K : PySem.W.Frag) (L0 : Addr → Prop) (io0 : List Addr) (H0 : Hp) (L : Addr → Prop) (io : List Addr) (H : Hp) (g : St) (e : Env) (S : Sto) : Prop where
  st : SR K L io H S
  len : g.length = e.length
  va : ∀ (i : Nat) (d : Dv), e[i]? = some (.va d) → ∃ v, g[i]? = some (some v) ∧ VR K L io H v d
  own : ∀ (i : Nat) (o : Ob), e[i]? = some (.own o) → ∃ p, g[i]? = some (some (.ref p)) ∧ L p ∧ p ∉ io ∧ H0 p = none ∧ ObR K L io H p o
  inj : ∀ (i j : Nat) (p : Addr), i ≠ j → (∀ d, e[i]? ≠ some (.va d)) → (∀ d, e[j]? ≠ some (.va d)) → e[i]? ≠ some .no → e[j]? ≠ some .no → g[i]? = some (some (.ref p)) → g[j]? ≠ some (some (.ref p))
  en : Stp L0 io0 H0 L io H
  sub0 : ∀ a ∈ io0, L0 a
  dom0 : ∀ a, L0 a → H0 a ≠ none
section
variable {K : PySem.W.Frag} {L0 L L' : Addr → Prop} {io0 io io' : List Addr} {H0 H H' : Hp} {g : St} {e : Env} {S S' : Sto}
theorem FR.ow (f : FR K L0 io0 H0 L io H g e S) (i : Nat) (l : List Dv) (h : e[i]? = some (.ow l)) : ∃ p xs, g[i]? = some (some (.ref p)) ∧ L p ∧ p ∉ io ∧ H0 p = none ∧ H p = some (.lst xs) ∧ VRs K L io H xs l := by
  obtain ⟨p, h1, h2, h3, h4, xs, h5, h6⟩ := f.own i _ h
  exact ⟨p, xs, h1, h2, h3, h4, h5, h6⟩
theorem FR.od (f : FR K L0 io0 H0 L io H g e S) (i : Nat) (l : List (Key × Dv)) (h : e[i]? = some (.od l)) : ∃ p kvs, g[i]? = some (some (.ref p)) ∧ L p ∧ p ∉ io ∧ H0 p = none ∧ H p = some (.dK kvs) ∧ PairR (VR K L io H) kvs l := by
  obtain ⟨p, h1, h2, h3, h4, xs, h5, h6⟩ := f.own i _ h
  exact ⟨p, xs, h1, h2, h3, h4, h5, h6⟩
theorem FR.oi (f : FR K L0 io0 H0 L io H g e S) (i : Nat) (c : Str) (fs : List (Str × Dv)) (h : e[i]? = some (.oi c fs)) : ∃ p dx vs, g[i]? = some (some (.ref p)) ∧ L p ∧ p ∉ io ∧ H0 p = none ∧ H p = some (.ins (He.ga K c) dx vs) ∧ PairR (VR K L io H) vs fs := by
  obtain ⟨p, h1, h2, h3, h4, dx, vs, h5, h6⟩ := f.own i _ h
  exact ⟨p, dx, vs, h1, h2, h3, h4, h5, h6⟩
theorem ObR.has {a : Addr} {o : Ob} (h : ObR K L io H a o) : ∃ u, H a = some u := by
  cases o with
  | lst l => exact ⟨_, h.choose_spec.1⟩
  | dct l => exact ⟨_, h.choose_spec.1⟩
  | ins c fs => exact ⟨_, h.choose_spec.choose_spec.1⟩
theorem ObR.mono {a : Addr} {o : Ob} (h : ObR K L io H a o) (k : ∀ u, H a = some u → H' a = some u) (m : ∀ v d, VR K L io H v d → VR K L' io' H' v d) : ObR K L' io' H' a o := by
  cases o with
  | lst l =>
    obtain ⟨xs, e, r⟩ := h
    exact ⟨xs, k _ e, r.mono m⟩
  | dct l =>
    obtain ⟨xs, e, r⟩ := h
    exact ⟨xs, k _ e, r.mono m⟩
  | ins c fs =>
    obtain ⟨dx, xs, e, r⟩ := h
    exact ⟨dx, xs, k _ e, r.mono m⟩
/-- an expression was worked out: the frame stands -/
theorem FR.step (f : FR K L0 io0 H0 L io H g e S) (s : Stp L io H L' io' H') (st : SR K L' io' H' S') : FR K L0 io0 H0 L' io' H' g e S' where
  st := st
  len := f.len
  va := fun i d h => by
    obtain ⟨v, h1, h2⟩ := f.va i d h
    exact ⟨v, h1, h2.step s f.st.sub⟩
  own := fun i o h => by
    obtain ⟨p, h1, h2, h3, h4, h5⟩ := f.own i o h
    obtain ⟨u, h6⟩ := ObR.has (o := o) h5
    refine ⟨p, h1, s.up p h2, fun z => ?_, h4, ObR.mono (o := o) h5 (fun u h => s.keep p u h h3) fun v d r => r.step s f.st.sub⟩
    rcases s.hn p z with q | q
    · exact h3 q
    · rw [q] at h6; cases h6
  inj := f.inj
  en := f.en.trans s f.sub0
  sub0 := f.sub0
  dom0 := f.dom0
end
end DL
namespace DL
open PySem L2
/-- what comes of a piece: a value, an exception of an own class with its fields, or nothing that is known -/
inductive Res (α : Type) where
  | ok (a : α) (S : Sto) | ex (c : Str) (fs : List (Str × Dv)) (S : Sto) | no
abbrev DE := Env → Sto → Res Dv
abbrev DT := Env → Sto → Res Bool
abbrev DA := Env → Sto → Res (List Dv)
def ExR (K : PySem.W.Frag) (L : Addr → Prop) (io : List Addr) (H : Hp) (x : Option Addr) (fs : List (Str × Dv)) : Prop := ∃ a vs, x = some a ∧ ¬ L a ∧ H a = some (.xd vs) ∧ PairR (VR K L io H) vs fs
/-- the end of a piece -/
def Fin {α β : Type} (K : PySem.W.Frag) (W : WX) (R : (Addr → Prop) → List Addr → Hp → β → α → Prop) (g : St) (L : Addr → Prop) (io : List Addr) (H : Hp) (Q : β → Hp → Prop) : Res α → Prop
  | .ok d S' => ∀ (v : β) (H' : Hp) (L' : Addr → Prop) (io' : List Addr), Stp L io H L' io' H' → SR K L' io' H' S' → R L' io' H' v d → Q v H'
  | .ex c fs S' => ∀ (x : Option Addr) (H' : Hp) (L' : Addr → Prop) (io' : List Addr), Stp L io H L' io' H' → SR K L' io' H' S' → ExR K L' io' H' x fs → W (.ref (He.ga K c)) x g H'
  | .no => False
/-- the reading of a piece that works out f -/
def Rdg {α β : Type} (K : PySem.W.Frag) (W : WX) (R : (Addr → Prop) → List Addr → Hp → β → α → Prop) (f : Env → Sto → Res α) : St → Hp → (β → Hp → Prop) → Prop := fun g H Q =>
  ∃ (L0 : Addr → Prop) (io0 : List Addr) (H0 : Hp) (L : Addr → Prop) (io : List Addr) (e : Env) (S : Sto), FR K L0 io0 H0 L io H g e S ∧ Fin K W R g L io H Q (f e S)
def rd (K : PySem.W.Frag) (W : WX) (f : DE) : TE := Rdg K W (VR K) f
def rdt (K : PySem.W.Frag) (W : WX) (f : DT) : TT := Rdg K W (fun _ _ _ (v : Bool) d => v = d) f
def rda (K : PySem.W.Frag) (W : WX) (f : DA) : TA := Rdg K W (VRs K) f
abbrev QE (X : Cx) (W : WX) (e : Expr) (f : DE) : Prop := PE X e (rd X.K W f)
abbrev QT (X : Cx) (W : WX) (e : Expr) (f : DT) : Prop := PT X e (rdt X.K W f)
abbrev QA (X : Cx) (W : WX) (es : List Expr) (f : DA) : Prop := PA X es (rda X.K W f)
theorem pe_imp {X : Cx} {e : Expr} {t t' : TE} (h : PE X e t) (i : ∀ g H Q, t' g H Q → t g H Q) : PE X e t' := ⟨fun pins s g H Q I q => h.run pins s g H Q I (i g H Q q)⟩
theorem pt_imp {X : Cx} {e : Expr} {t t' : TT} (h : PT X e t) (i : ∀ g H Q, t' g H Q → t g H Q) : PT X e t' := ⟨fun pins s g H Q I q => h.run pins s g H Q I (i g H Q q)⟩
theorem pw_imp {X : Cx} {e : Expr} {t t' : TT} (h : PW X e t) (i : ∀ g H Q, t' g H Q → t g H Q) : PW X e t' := ⟨fun w pins s g H Q I q => h.run w pins s g H Q I (i g H Q q)⟩
theorem pa_imp {X : Cx} {e : List Expr} {t t' : TA} (h : PA X e t) (i : ∀ g H Q, t' g H Q → t g H Q) : PA X e t' := ⟨fun p pins s g H Q I q => h.run p pins s g H Q I (i g H Q q)⟩
theorem ps_imp {X : Cx} {e : Stmt} {t t' : TS} (h : PS X e t) (i : ∀ D g H, t' D g H → t D g H) : PS X e t' := ⟨fun pins s g H D I q => h.run pins s g H D I (i D g H q)⟩
theorem pss_imp {X : Cx} {e : List Stmt} {t t' : TS} (h : PSs X e t) (i : ∀ D g H, t' D g H → t D g H) : PSs X e t' := ⟨fun pins s g H D I q => h.run pins s g H D I (i D g H q)⟩
section
variable {K : PySem.W.Frag} {L L' : Addr → Prop} {io io' : List Addr} {H H' : Hp} {S S' : Sto} {p : Addr} {o : HO}
theorem SR.fresh (s : SR K L io H S) (hp : H p = none) : ¬ L p := fun z => s.dom p z hp
theorem Stp.alloc (hp : H p = none) : Stp L io H L io (upd H p o) := ⟨⟨[], by simp⟩, fun _ h => .inl h, fun _ h => .inl h, fun a u e _ => by rw [upd_ne (ne_of_none e hp)]; exact e, fun _ h => h⟩
theorem SR.alloc (s : SR K L io H S) (hp : H p = none) : SR K L io (upd H p o) S where
  len := s.len
  nd := s.nd
  sub := s.sub
  dom := fun a ha => by
    by_cases e : a = p
    · rw [e, upd_same]; exact fun z => nomatch z
    · rw [upd_ne e]; exact s.dom a ha
  obj := fun k a ob h1 h2 => (s.obj k a ob h1 h2).mono (fun u e => by rw [upd_ne (ne_of_none e hp)]; exact e) fun v d r => r.step (Stp.alloc hp) s.sub
theorem VR.newT {xs : List V} {ds : List Dv} (s : SR K L io H S) (hp : H p = none) (r : VRs K L io H xs ds) : VR K L io (upd H p (.tup xs)) (.ref p) (.tup ds) :=
  .tup (s.fresh hp) upd_same (r.step (Stp.alloc hp) s.sub)
theorem VR.newL {xs : List V} {ds : List Dv} (s : SR K L io H S) (hp : H p = none) (r : VRs K L io H xs ds) : VR K L io (upd H p (.lst xs)) (.ref p) (.lst ds) :=
  .lst (s.fresh hp) upd_same (r.step (Stp.alloc hp) s.sub)
end
def asL (S : Sto) : Dv → Option (List Dv)
  | .lst l => some l
  | .rol l => some l
  | .hdl k => match S[k]? with
    | some (.lst l) => some l
    | _ => none
  | _ => none
def asT : Dv → Option (List Dv)
  | .tup l => some l
  | _ => none
section
variable {K : PySem.W.Frag} {L : Addr → Prop} {io : List Addr} {H : Hp} {S : Sto} {v : V} {d : Dv} {l : List Dv}
theorem asL_ok (s : SR K L io H S) (r : VR K L io H v d) (h : asL S d = some l) : ∃ a xs, v = .ref a ∧ SqL K H a xs ∧ VRs K L io H xs l := by
  cases r with
  | lst nl e t => cases h; exact ⟨_, _, rfl, SqL.of e, t⟩
  | rol nl e t => cases h; exact ⟨_, _, rfl, .inl e, t⟩
  | rolK e t => cases h; exact ⟨_, _, rfl, e H, t⟩
  | hdl hk =>
    rename_i a k
    cases q : S[k]? with
    | none => simp [asL, q] at h
    | some o =>
      cases o with
      | lst l' =>
        simp [asL, q] at h
        subst h
        obtain ⟨xs, e, t⟩ := s.obj k a _ hk q
        exact ⟨a, xs, rfl, SqL.of e, t⟩
      | _ => simp [asL, q] at h
  | _ => cases h
theorem asT_ok (r : VR K L io H v d) (h : asT d = some l) : ∃ a xs, v = .ref a ∧ SqT K H a xs ∧ VRs K L io H xs l := by
  cases r with
  | tup nl e t => cases h; exact ⟨_, _, rfl, SqT.of e, t⟩
  | tupK e t => cases h; exact ⟨_, _, rfl, e.1 H, t⟩
  | _ => cases h
end
def vwO : Ob → Dv
  | .lst l => .lst l
  | .dct l => .dic l
  | .ins c fs => .obj c fs
def VX (K : PySem.W.Frag) (L : Addr → Prop) (io : List Addr) (H : Hp) (v : V) (d : Dv) : Prop := VR K L io H v d ∨ ∃ p o, v = .ref p ∧ d = vwO o ∧ p ∉ io ∧ ObR K L io H p o
def isV : Dv → Bool
  | .lst _ => true
  | .dic _ => true
  | .obj _ _ => true
  | _ => false
section
variable {K : PySem.W.Frag} {L L' : Addr → Prop} {io io' : List Addr} {H H' : Hp} {S : Sto} {v : V} {d : Dv} {l : List Dv}
theorem VX.vr (r : VX K L io H v d) (h : isV d = false) : VR K L io H v d := by
  rcases r with r | ⟨p, o, rfl, rfl, _, _⟩
  · exact r
  · cases o <;> cases h
theorem VX.step (r : VX K L io H v d) (s : Stp L io H L' io' H') (sub : ∀ x ∈ io, L x) : VX K L' io' H' v d := by
  rcases r with r | ⟨p, o, rfl, rfl, np, ob⟩
  · exact .inl (r.step s sub)
  · obtain ⟨u, hu⟩ := ob.has
    refine .inr ⟨p, o, rfl, rfl, fun z => ?_, ob.mono (fun u e => s.keep p u e np) fun v d r => r.step s sub⟩
    rcases s.hn p z with q | q
    · exact np q
    · rw [q] at hu; cases hu
theorem asL_x (s : SR K L io H S) (r : VX K L io H v d) (h : asL S d = some l) : ∃ a xs, v = .ref a ∧ SqL K H a xs ∧ VRs K L io H xs l := by
  rcases r with r | ⟨p, o, rfl, rfl, np, ob⟩
  · exact asL_ok s r h
  · cases o with
    | lst m => cases h; obtain ⟨xs, e, t⟩ := ob; exact ⟨p, xs, rfl, SqL.of e, t⟩
    | _ => cases h
theorem VX.lst (r : VX K L io H v (.lst l)) : ∃ p xs, v = .ref p ∧ H p = some (.lst xs) ∧ VRs K L io H xs l := by
  rcases r with r | ⟨p, o, rfl, e, np, ob⟩
  · cases r with
    | lst n h t => exact ⟨_, _, rfl, h, t⟩
  · cases o with
    | lst m => cases e; obtain ⟨xs, e, t⟩ := ob; exact ⟨p, xs, rfl, e, t⟩
    | _ => cases e
theorem asT_x (r : VX K L io H v d) (h : asT d = some l) : ∃ a xs, v = .ref a ∧ SqT K H a xs ∧ VRs K L io H xs l := asT_ok (r.vr (by cases d <;> first | rfl | cases h)) h
inductive VXs (K : PySem.W.Frag) (L : Addr → Prop) (io : List Addr) (H : Hp) : List V → List Dv → Prop
  | nil : VXs K L io H [] []
  | cons {v : V} {vs : List V} {d : Dv} {ds : List Dv} : VX K L io H v d → VXs K L io H vs ds → VXs K L io H (v :: vs) (d :: ds)
theorem VRs.x : ∀ {vs : List V} {l : List Dv}, VRs K L io H vs l → VXs K L io H vs l
  | _, _, .nil => .nil
  | _, _, .cons h t => .cons (.inl h) t.x
end
abbrev QX (X : Cx) (W : WX) (e : Expr) (f : DE) : Prop := PE X e (Rdg X.K W (VX X.K) f)
abbrev QXs (X : Cx) (W : WX) (es : List Expr) (f : DA) : Prop := PA X es (Rdg X.K W (VXs X.K) f)
def ofO {α : Type} : Option (α × Sto) → Res α
  | some (a, S) => .ok a S
  | none => .no
def bnd {α β : Type} (x : Res α) (k : α → Sto → Res β) : Res β := match x with
  | .ok a S => k a S
  | .ex c fs S => .ex c fs S
  | .no => .no
@[simp] theorem bnd_ok {α β : Type} (a : α) (S : Sto) (k : α → Sto → Res β) : bnd (.ok a S) k = k a S := rfl
@[simp] theorem ofO_some {α : Type} (a : α) (S : Sto) : ofO (some (a, S)) = .ok a S := rfl
section
variable {X : Cx} {W : WX} {pos : Pos}
def eVar (i : Nat) : DE := fun e S => match e[i]? with
  | some (.va d) => .ok d S
  | _ => .no
def eC (d : Dv) : DE := fun _ S => .ok d S
theorem rd_var {K : PySem.W.Frag} {i : Nat} {g : St} {H : Hp} {Q : VK} (h : rd K W (eVar i) g H Q) : tVar i g H Q := by
  obtain ⟨L0, io0, H0, L, io, e, S, fr, h⟩ := h
  cases q : e[i]? with
  | none => simp only [eVar, q] at h; exact h.elim
  | some sl =>
    cases sl with
    | va d' =>
      simp only [eVar, q] at h
      obtain ⟨v, h1, h2⟩ := fr.va i _ q
      exact ⟨v, h1, h v H L io (Stp.refl ..) fr.st h2⟩
    | _ => simp only [eVar, q] at h; exact h.elim
theorem qe_var (i : Nat) {x : Str} (hN : X.N[i]? = some x := by rfl) (hv : Vis X.env.scope x := by first | exact Or.inl rfl | exact Or.inr (Or.inl rfl) | exact Or.inr (Or.inr rfl)) (hd : (x == ("__debug__" : Str)) = false := by decide)
    (hcd : (x == ("__classdict__" : Str)) = false := by decide) : QE X W (.Name x pos) (eVar i) := pe_imp (pe_var hN hv hd hcd) fun _ _ _ h => rd_var h
theorem rd_C {K : PySem.W.Frag} {d : Dv} {v : V} {g : St} {H : Hp} {Q : VK} (r : ∀ L io, VR K L io H v d) (h : rd K W (eC d) g H Q) : tC v g H Q := by
  obtain ⟨L0, io0, H0, L, io, e, S, fr, h⟩ := h
  exact h v H L io (Stp.refl ..) fr.st (r _ _)
theorem qe_int {i : Int} {j} : QE X W (.Constant (.int i) j pos) (eC (.int i)) := pe_imp pe_int fun _ _ _ h => rd_C (fun _ _ => .int i) h
theorem qe_bl {b : Bool} {j} : QE X W (.Constant (.bool b) j pos) (eC (.bl b)) := pe_imp pe_bl fun _ _ _ h => rd_C (fun _ _ => .bl b) h
theorem qe_non {j} : QE X W (.Constant .none j pos) (eC .non) := pe_imp pe_non fun _ _ _ h => rd_C (fun _ _ => .non) h
theorem qe_str {x : Str} {j} : QE X W (.Constant (.str x) j pos) (eC (.str x)) := pe_imp pe_str fun _ _ _ h => rd_C (fun _ _ => .str x) h
/-- a module's name: a constant, a def, a class -/
theorem qe_glob {x : Str} {v : V} {d : Dv} {u : Value} (hm : X.mg x = some u) (r : RelV v u) (hr : ∀ L io H, VR X.K L io H v d) (hg : Gl X x := by rfl) (hd : (x == ("__debug__" : Str)) = false := by decide) : QE X W (.Name x pos) (eC d) :=
  pe_imp (pe_glob hg hm r hd) fun _ _ _ h => rd_C (fun _ _ => hr _ _ _) h
/-- a built-in class as a value -/
theorem qe_ty {x : Str} {n : String} (hm : X.mg x = none) (hv : bootBuiltins x = some (.type n)) (hg : Gl X x := by rfl) (hn : x ≠ "__name__" := by decide) (hd : (x == ("__debug__" : Str)) = false := by decide) : QE X W (.Name x pos) (eC (.ty n)) :=
  pe_imp (pe_bltn (v := .ty n) hg hm hv rfl hn hd) fun _ _ _ h => rd_C (fun _ _ => .ty n) h
end
section
variable {K : PySem.W.Frag} {W : WX} {α α' β β' γ : Type} {R : (Addr → Prop) → List Addr → Hp → β → α → Prop} {R' : (Addr → Prop) → List Addr → Hp → β' → α' → Prop}
theorem Fin.later {g : St} {L L1 : Addr → Prop} {io io1 : List Addr} {H H1 : Hp} {Q : β' → Hp → Prop} {r : Res α'} (h : Fin K W R' g L io H Q r) (s : Stp L io H L1 io1 H1) (sub : ∀ x ∈ io, L x) : Fin K W R' g L1 io1 H1 Q r := by
  cases r with
  | ok d S' => exact fun v H' L' io' s2 sr r2 => h v H' L' io' (s.trans s2 sub) sr r2
  | ex c fs S' => exact fun v H' L' io' s2 sr r2 => h v H' L' io' (s.trans s2 sub) sr r2
  | no => exact h
/-- the next part of a piece is worked out; the rest goes on -/
theorem Fin.bind {f : Env → Sto → Res α} {k : α → Sto → Res α'} {g : St} {L0 L : Addr → Prop} {io0 io : List Addr} {H0 H : Hp} {e : Env} {S : Sto} {Q : β' → Hp → Prop} {P : β → Hp → Prop}
    (fr : FR K L0 io0 H0 L io H g e S) (h : Fin K W R' g L io H Q (bnd (f e S) k))
    (n : ∀ (L1 : Addr → Prop) (io1 : List Addr) (H1 : Hp) (S1 : Sto) (a : α) (v : β), Stp L io H L1 io1 H1 → FR K L0 io0 H0 L1 io1 H1 g e S1 → R L1 io1 H1 v a → Fin K W R' g L1 io1 H1 Q (k a S1) → P v H1) : Rdg K W R f g H P := by
  refine ⟨L0, io0, H0, L, io, e, S, fr, ?_⟩
  cases hf : f e S with
  | ok a S1 =>
    rw [hf] at h
    intro v H1 L1 io1 s1 sr1 r1
    exact n L1 io1 H1 S1 a v s1 (fr.step s1 sr1) r1 (Fin.later (L := L) (io := io) (H := H) h s1 fr.st.sub)
  | ex c fs S1 =>
    rw [hf] at h
    exact h
  | no =>
    rw [hf] at h
    exact h
/-- the first part of a piece -/
theorem Rdg.bind {f : Env → Sto → Res α} {k : Env → α → Sto → Res α'} {g : St} {H : Hp} {Q : β' → Hp → Prop} {P : β → Hp → Prop}
    (h : Rdg K W R' (fun e S => bnd (f e S) (k e)) g H Q)
    (n : ∀ (L0 : Addr → Prop) (io0 : List Addr) (H0 : Hp) (L : Addr → Prop) (io : List Addr) (H1 : Hp) (e : Env) (S : Sto) (a : α) (v : β), FR K L0 io0 H0 L io H1 g e S → R L io H1 v a → Fin K W R' g L io H1 Q (k e a S) → P v H1) : Rdg K W R f g H P := by
  obtain ⟨L0, io0, H0, L, io, e, S, fr, h⟩ := h
  exact Fin.bind (k := k e) fr h fun L1 io1 H1 S1 a v _ fr1 r1 q => n L0 io0 H0 L1 io1 H1 e S1 a v fr1 r1 q
theorem Fin.ok1 {g : St} {L : Addr → Prop} {io : List Addr} {H : Hp} {Q : β' → Hp → Prop} {d : α'} {S : Sto} (h : Fin K W R' g L io H Q (.ok d S)) (sr : SR K L io H S) {v : β'} (r : R' L io H v d) : Q v H := h v H L io (Stp.refl ..) sr r
theorem Fin.rdg {f : Env → Sto → Res α'} {g : St} {L0 L : Addr → Prop} {io0 io : List Addr} {H0 H : Hp} {Q : β' → Hp → Prop} {e : Env} {S : Sto} (fr : FR K L0 io0 H0 L io H g e S) (h : Fin K W R' g L io H Q (f e S)) : Rdg K W R' f g H Q :=
  ⟨L0, io0, H0, L, io, e, S, fr, h⟩
end
theorem Rdg.weaken {K : PySem.W.Frag} {W : WX} {α β : Type} {R R' : (Addr → Prop) → List Addr → Hp → β → α → Prop} (h : ∀ L io H v d, R' L io H v d → R L io H v d) {f : Env → Sto → Res α} {g : St} {H : Hp} {Q : β → Hp → Prop} (q : Rdg K W R f g H Q) : Rdg K W R' f g H Q := by
  obtain ⟨L0, io0, H0, L, io, e, S, fr, q⟩ := q
  refine ⟨L0, io0, H0, L, io, e, S, fr, ?_⟩
  cases hf : f e S with
  | ok d S' => rw [hf] at q; exact fun v H' L' io' s sr r => q v H' L' io' s sr (h _ _ _ _ _ r)
  | ex c fs S' => rw [hf] at q; exact q
  | no => rw [hf] at q; exact q
/-- r serves what h gives -/
def OpS (K : PySem.W.Frag) (r : R2) (h : Sto → Dv → Dv → Option (Dv × Sto)) : Prop :=
  ∀ (L : Addr → Prop) (io : List Addr) (H : Hp) (S : Sto) (x y : V) (a b d : Dv) (S' : Sto) (Q : VK), SR K L io H S → VX K L io H x a → VX K L io H y b → h S a b = some (d, S') →
    (∀ (v : V) (H' : Hp) (L' : Addr → Prop) (io' : List Addr), Stp L io H L' io' H' → SR K L' io' H' S' → VR K L' io' H' v d → Q v H') → r x y H Q
theorem Fin.opt {α' β' : Type} {K : PySem.W.Frag} {W : WX} {R' : (Addr → Prop) → List Addr → Hp → β' → α' → Prop} {g : St} {L : Addr → Prop} {io : List Addr} {H : Hp} {Q : β' → Hp → Prop} {o : Option (α' × Sto)} (h : Fin K W R' g L io H Q (ofO o)) :
    ∃ d S', o = some (d, S') ∧ ∀ (v : β') (H' : Hp) (L' : Addr → Prop) (io' : List Addr), Stp L io H L' io' H' → SR K L' io' H' S' → R' L' io' H' v d → Q v H' := by
  cases o with
  | none => exact h.elim
  | some p => exact ⟨p.1, p.2, rfl, h⟩
def eBin (h : Sto → Dv → Dv → Option (Dv × Sto)) (f1 f2 : DE) : DE := fun e S => bnd (f1 e S) fun a S1 => bnd (f2 e S1) fun b S2 => ofO (h S2 a b)
theorem rd_bin {K : PySem.W.Frag} {W : WX} {r : R2} {h : Sto → Dv → Dv → Option (Dv × Sto)} {f1 f2 : DE} (ho : OpS K r h) {g : St} {H : Hp} {Q : VK} (q : rd K W (eBin h f1 f2) g H Q) : tOp r (Rdg K W (VX K) f1) (Rdg K W (VX K) f2) g H Q := by
  refine Rdg.bind (R := VX K) (k := fun e a S1 => bnd (f2 e S1) fun b S2 => ofO (h S2 a b)) q fun L0 io0 H0 L io H1 e S a v fr ra q => ?_
  refine Fin.bind (R := VX K) (k := fun b S2 => ofO (h S2 a b)) fr q fun L2 io2 H2 S2 b w s2 fr2 rb q => ?_
  obtain ⟨d, S3, h1, h2⟩ := q.opt
  exact ho L2 io2 H2 S2 v w a b d S3 Q fr2.st (ra.step s2 fr.st.sub) rb h1 h2
section
variable {X : Cx} {W : WX} {pos : Pos} {a b : Expr} {f f1 f2 : DE} {r : R2} {h : Sto → Dv → Dv → Option (Dv × Sto)}
theorem qx (ha : QE X W a f) : QX X W a f := pe_imp ha fun g H Q q => q.weaken fun _ _ _ _ _ r => .inl r
theorem qe_op {op : Operator} (ho : OpR X (binaryOp op) r) (hs : OpS X.K r h) (ha : QX X W a f1) (hb : QX X W b f2) : QE X W (.BinOp a op b pos) (eBin h f1 f2) := pe_imp (pe_op ho ha hb) fun _ _ _ q => rd_bin hs q
theorem qe_cmp {op : CmpOp} (ho : OpR X (compareOp op) r) (hs : OpS X.K r h) (ha : QX X W a f1) (hb : QX X W b f2) (hm : behindInMarks op b = false := by first | exact nomark _ | rfl) : QE X W (.Compare a [op] [b] pos) (eBin h f1 f2) := pe_imp (pe_cmpR ho ha hb hm) fun _ _ _ q => rd_bin hs q
/-- an expression whose value is a truth, as a test -/
def blD : Dv → Sto → Res Bool
  | .bl b, S => .ok b S
  | _, _ => .no
def tVal (f : DE) : DT := fun e S => bnd (f e S) blD
theorem rd_tval {K : PySem.W.Frag} {f : DE} {g : St} {H : Hp} {Q : Bool → Hp → Prop} (q : rdt K W (tVal f) g H Q) : tTest (rd K W f) g H Q := by
  refine Rdg.bind (R := VR K) (k := fun _ => blD) q fun L0 io0 H0 L io H1 e S a v fr ra q => ?_
  cases ra with
  | bl b => exact ⟨_, rfl, q.ok1 fr.st rfl⟩
  | _ => exact q.elim
theorem qt_cmp {op : CmpOp} (ho : OpR X (compareOp op) r) (hs : OpS X.K r h) (ha : QX X W a f1) (hb : QX X W b f2) (hm : behindInMarks op b = false := by first | exact nomark _ | rfl) : QT X W (.Compare a [op] [b] pos) (tVal (eBin h f1 f2)) :=
  pt_imp (pt_cmpR ho ha hb hm) fun g H Q q => by
    have z := rd_tval q
    exact (show tTest (tOp r (Rdg X.K W (VX X.K) f1) (Rdg X.K W (VX X.K) f2)) g H Q from rd_bin hs z)
end
end DL
namespace DL
open PySem L2
def pu2 (h : Dv → Dv → Option Dv) : Sto → Dv → Dv → Option (Dv × Sto) := fun S a b => (h a b).map fun d => (d, S)
theorem pu2_ok {h : Dv → Dv → Option Dv} {S S' : Sto} {a b d : Dv} (e : pu2 h S a b = some (d, S')) : h a b = some d ∧ S' = S := by
  unfold pu2 at e
  cases q : h a b with
  | none => rw [q] at e; cases e
  | some z => rw [q] at e; cases e; exact ⟨rfl, rfl⟩
def iop (g : Int → Int → Option Dv) : Dv → Dv → Option Dv
  | .int i, .int j => g i j
  | _, _ => none
/-- an operator of two ints -/
theorem ops_int {K : PySem.W.Frag} {C : Int → Int → Prop} {gv : Int → Int → V} {g : Int → Int → Option Dv} (hg : ∀ i j d, g i j = some d → C i j ∧ ∀ L io H, VR K L io H (gv i j) d) : OpS K (rI C gv) (pu2 (iop g)) := by
  intro L io H S x y a b d S' Q sr ra rb e0 q
  obtain ⟨e, rfl⟩ := pu2_ok e0
  clear e0
  cases a with
  | int i =>
    cases b with
    | int j =>
      cases ra.vr rfl; cases rb.vr rfl
      obtain ⟨hc, r⟩ := hg i j d e
      exact ⟨i, j, rfl, rfl, hc, q _ H L io (Stp.refl ..) sr (r _ _ _)⟩
    | _ => cases e
  | _ => cases e
theorem ops_int0 {K : PySem.W.Frag} {gv : Int → Int → V} {g : Int → Int → Dv} (hg : ∀ i j L io H, VR K L io H (gv i j) (g i j)) : OpS K (rI0 gv) (pu2 (iop fun i j => some (g i j))) := by
  intro L io H S x y a b d S' Q sr ra rb e0 q
  obtain ⟨e, rfl⟩ := pu2_ok e0
  clear e0
  cases a with
  | int i =>
    cases b with
    | int j =>
      cases ra.vr rfl; cases rb.vr rfl
      cases e
      exact ⟨i, j, rfl, rfl, q _ H L io (Stp.refl ..) sr (hg _ _ _ _ _)⟩
    | _ => cases e
  | _ => cases e
def subD : Dv → Dv → Option Dv := iop fun i j => some (.int (i - j))
def mulD : Dv → Dv → Option Dv := iop fun i j => if (-(2 ^ 64) < i ∧ i < 2 ^ 64) ∨ (-(2 ^ 64) < j ∧ j < 2 ^ 64) then some (.int (i * j)) else none
def modD : Dv → Dv → Option Dv := iop fun i j => if 0 < j then some (.int (i % j)) else none
def fdivD : Dv → Dv → Option Dv := iop fun i j => if 0 < j ∧ j < 1073741824 then some (.int (i / j)) else none
def ltD : Dv → Dv → Option Dv := iop fun i j => some (.bl (decide (i < j)))
def leD : Dv → Dv → Option Dv := iop fun i j => some (.bl (decide (i ≤ j)))
def gtD : Dv → Dv → Option Dv := iop fun i j => some (.bl (decide (j < i)))
def geD : Dv → Dv → Option Dv := iop fun i j => some (.bl (decide (j ≤ i)))
section
variable {X : Cx} {W : WX} {pos : Pos} {a b : Expr} {f1 f2 : DE}
theorem qe_mul (ha : QX X W a f1) (hb : QX X W b f2) : QE X W (.BinOp a .Mult b pos) (eBin (pu2 mulD) f1 f2) := qe_op op_mul (ops_int fun i j d e => by
  split at e
  · rename_i h; cases e; exact ⟨h, fun _ _ _ => .int _⟩
  · cases e) ha hb
theorem qe_mod (ha : QX X W a f1) (hb : QX X W b f2) : QE X W (.BinOp a .Mod b pos) (eBin (pu2 modD) f1 f2) := qe_op op_mod (ops_int fun i j d e => by
  split at e
  · rename_i h; cases e; exact ⟨h, fun _ _ _ => .int _⟩
  · cases e) ha hb
theorem qe_fdiv (ha : QX X W a f1) (hb : QX X W b f2) : QE X W (.BinOp a .FloorDiv b pos) (eBin (pu2 fdivD) f1 f2) := qe_op op_fdiv (ops_int fun i j d e => by
  split at e
  · rename_i h; cases e; exact ⟨h, fun _ _ _ => .int _⟩
  · cases e) ha hb
theorem qt_lt (ha : QX X W a f1) (hb : QX X W b f2) : QT X W (.Compare a [.Lt] [b] pos) (tVal (eBin (pu2 ltD) f1 f2)) := qt_cmp op_lt (ops_int0 fun _ _ _ _ _ => .bl _) ha hb
theorem qt_gt (ha : QX X W a f1) (hb : QX X W b f2) : QT X W (.Compare a [.Gt] [b] pos) (tVal (eBin (pu2 gtD) f1 f2)) := qt_cmp op_gt (ops_int0 fun _ _ _ _ _ => .bl _) ha hb
theorem qt_ge (ha : QX X W a f1) (hb : QX X W b f2) : QT X W (.Compare a [.GtE] [b] pos) (tVal (eBin (pu2 geD) f1 f2)) := qt_cmp op_ge (ops_int0 fun _ _ _ _ _ => .bl _) ha hb
end
def rAddA (K : PySem.W.Frag) : R2 := fun x y H Q => rI0 (fun i j => .int (i + j)) x y H Q ∨ (∃ i j, x = .str i ∧ y = .str j ∧ i.length + j.length ≤ sizeLine ∧ Q (.str (i ++ j)) H) ∨ rCatA K x y H Q ∨ rCat x y H Q
theorem op_addA {X : Cx} : OpR X (binaryOp .Add) (rAddA X.K) := op_add.or (op_add_str.or (op_catA.or op_cat))
def asH (S : Sto) : Dv → Option (List Dv)
  | .lst l => some l
  | .hdl k => match S[k]? with
    | some (.lst l) => some l
    | _ => none
  | _ => none
theorem asH_x {K : PySem.W.Frag} {L : Addr → Prop} {io : List Addr} {H : Hp} {S : Sto} {v : V} {d : Dv} {l : List Dv} (s : SR K L io H S) (r : VX K L io H v d) (h : asH S d = some l) : ∃ a xs, v = .ref a ∧ H a = some (.lst xs) ∧ VRs K L io H xs l := by
  cases d with
  | lst m => cases h; exact r.lst
  | hdl k =>
    cases q : S[k]? with
    | none => simp [asH, q] at h
    | some o =>
      cases o with
      | lst m =>
        simp [asH, q] at h
        subst h
        cases r.vr rfl with
        | hdl hk =>
          obtain ⟨xs, e, t⟩ := s.obj k _ _ hk q
          exact ⟨_, xs, rfl, e, t⟩
      | _ => simp [asH, q] at h
  | _ => cases h
def addD : Sto → Dv → Dv → Option (Dv × Sto)
  | S, .int i, .int j => some (.int (i + j), S)
  | S, .str x, .str y => if x.length + y.length ≤ sizeLine then some (.str (x ++ y), S) else none
  | S, .tup l, .tup m => if l.length + m.length ≤ sizeLine then some (.tup (l ++ m), S) else none
  | S, .lst l, b => (asH S b).bind fun m => if l.length + m.length ≤ sizeLine then some (.lst (l ++ m), S) else none
  | S, .hdl k, b => (asH S (.hdl k)).bind fun l => (asH S b).bind fun m => if l.length + m.length ≤ sizeLine then some (.lst (l ++ m), S) else none
  | _, _, _ => none
theorem VR.tupS {K : PySem.W.Frag} {L : Addr → Prop} {io : List Addr} {H : Hp} {v : V} {l : List Dv} (r : VR K L io H v (.tup l)) : ∃ a xs, v = .ref a ∧ SqT K H a xs ∧ VRs K L io H xs l := asT_ok r rfl
theorem VRs.nil_iff {K : PySem.W.Frag} {L : Addr → Prop} {io : List Addr} {H : Hp} {vs : List V} {l : List Dv} (r : VRs K L io H vs l) : vs = [] ↔ l = [] := by
  cases r <;> simp
theorem ops_add {K : PySem.W.Frag} : OpS K (rAddA K) addD := by
  intro L io H S x y a b d S' Q sr ra rb e q
  have lst : ∀ l, asH S a = some l → ((asH S b).bind fun m => if l.length + m.length ≤ sizeLine then some (Dv.lst (l ++ m), S) else none) = some (d, S') → rAddA K x y H Q := by
    intro l h1 e
    cases h : asH S b with
    | none => rw [h] at e; cases e
    | some m =>
      rw [h] at e
      simp only [Option.bind_some] at e
      split at e
      · rename_i hl
        cases e
        obtain ⟨p1, xs, rfl, e1, r1⟩ := asH_x sr ra h1
        obtain ⟨p2, ys, rfl, e2, r2⟩ := asH_x sr rb h
        exact .inr (.inr (.inr ⟨_, _, _, _, rfl, rfl, e1, e2, by rw [r1.len, r2.len]; exact hl, fun p hp => q _ _ L io (Stp.alloc hp) (sr.alloc hp) (VR.newL sr hp (r1.app r2))⟩))
      · cases e
  cases a with
  | int i =>
    cases b with
    | int j =>
      cases e; cases ra.vr rfl; cases rb.vr rfl
      exact .inl ⟨i, j, rfl, rfl, q _ H L io (Stp.refl ..) sr (.int _)⟩
    | _ => cases e
  | str i =>
    cases b with
    | str j =>
      simp only [addD] at e
      split at e
      · rename_i h
        cases e; cases ra.vr rfl; cases rb.vr rfl
        exact .inr (.inl ⟨i, j, rfl, rfl, h, q _ H L io (Stp.refl ..) sr (.str _)⟩)
      · cases e
    | _ => cases e
  | tup l =>
    cases b with
    | tup m =>
      simp only [addD] at e
      split at e
      · rename_i h
        cases e
        obtain ⟨p1, xs, rfl, s1, r1⟩ := (ra.vr rfl).tupS
        obtain ⟨p2, ys, rfl, s2, r2⟩ := (rb.vr rfl).tupS
        refine .inr (.inr (.inl ⟨p1, p2, xs, ys, rfl, rfl, s1, s2, by rw [r1.len, r2.len]; exact h, fun h0 => ?_, fun h0 h1 => ?_, fun _ _ p hp => ?_⟩))
        · have : l = [] := r1.nil_iff.mp h0
          subst this
          exact q _ H L io (Stp.refl ..) sr (rb.vr rfl)
        · have : m = [] := r2.nil_iff.mp h1
          subst this
          rw [List.append_nil] at q
          exact q _ H L io (Stp.refl ..) sr (ra.vr rfl)
        · exact q _ _ L io (Stp.alloc hp) (sr.alloc hp) (VR.newT sr hp (r1.app r2))
      · cases e
    | _ => cases e
  | lst l =>
    have e' : ((asH S b).bind fun m => if l.length + m.length ≤ sizeLine then some (Dv.lst (l ++ m), S) else none) = some (d, S') := by cases b <;> exact e
    exact lst l rfl e'
  | hdl k =>
    have e' : ((asH S (.hdl k)).bind fun l => (asH S b).bind fun m => if l.length + m.length ≤ sizeLine then some (Dv.lst (l ++ m), S) else none) = some (d, S') := by cases b <;> exact e
    cases h : asH S (.hdl k) with
    | none => rw [h] at e'; cases e'
    | some l => rw [h] at e'; exact lst l h e'
  | _ => cases e
theorem qe_add {X : Cx} {W : WX} {pos : Pos} {a b : Expr} {f1 f2 : DE} (ha : QX X W a f1) (hb : QX X W b f2) : QE X W (.BinOp a .Add b pos) (eBin addD f1 f2) := qe_op op_addA ops_add ha hb
mutual
def toP : Dv → Option PyData
  | .non => some .none
  | .bl b => some (.bool b)
  | .int i => some (.int i)
  | .str x => some (.str x)
  | .tup l => (toPs l).map .tuple
  | .lst l => (toPs l).map .list
  | .rol l => (toPs l).map .list
  | .dic _ => none
  | .obj _ _ => none
  | .hdl _ => none
  | .glo _ => none
  | .ty _ => none
def toPs : List Dv → Option (List PyData)
  | [] => some []
  | d :: l => (toP d).bind fun p => (toPs l).map fun ps => p :: ps
end
/-- handles as they stand now -/
def deref : Nat → Sto → Dv → Dv
  | 0, _, d => d
  | n + 1, S, .hdl k => match S[k]? with
    | some (.lst l) => .lst (l.map (deref n S))
    | some (.dct l) => .dic (l.map fun q => (q.1, deref n S q.2))
    | _ => .hdl k
  | n + 1, S, .tup l => .tup (l.map (deref n S))
  | n + 1, S, .lst l => .lst (l.map (deref n S))
  | n + 1, S, .rol l => .rol (l.map (deref n S))
  | n + 1, S, .dic l => .dic (l.map fun q => (q.1, deref n S q.2))
  | _ + 1, _, d => d
section
variable {K : PySem.W.Frag} {L : Addr → Prop} {io : List Addr} {H : Hp} {S : Sto}
mutual
theorem toP_ok : ∀ (d : Dv) (v : V) (p : PyData), VR K L io H v d → toP d = some p → Dp K H v p
  | .non, v, p, r, e => by cases r; cases e; exact .non
  | .bl b, v, p, r, e => by cases r; cases e; exact .bl b
  | .int b, v, p, r, e => by cases r; cases e; exact .int b
  | .str b, v, p, r, e => by cases r; cases e; exact .str b
  | .tup l, v, p, r, e => by
    obtain ⟨a, xs, rfl, s, t⟩ := r.tupS
    simp only [toP] at e
    cases q : toPs l with
    | none => rw [q] at e; cases e
    | some ps => rw [q] at e; cases e; exact .tup s (toPs_ok l xs ps t q)
  | .lst l, v, p, r, e => by
    simp only [toP] at e
    cases q : toPs l with
    | none => rw [q] at e; cases e
    | some ps =>
      rw [q] at e; cases e
      cases r with
      | lst n h t => exact .lst (SqL.of h) (toPs_ok l _ ps t q)
  | .rol l, v, p, r, e => by
    simp only [toP] at e
    cases q : toPs l with
    | none => rw [q] at e; cases e
    | some ps =>
      rw [q] at e; cases e
      cases r with
      | rol n h t => exact .lst (.inl h) (toPs_ok l _ ps t q)
      | rolK h t => exact .lst (h H) (toPs_ok l _ ps t q)
  | .dic k, v, p, r, e => by simp [toP] at e
  | .obj c k, v, p, r, e => by simp [toP] at e
  | .hdl k, v, p, r, e => by simp [toP] at e
  | .glo k, v, p, r, e => by simp [toP] at e
  | .ty k, v, p, r, e => by simp [toP] at e
theorem toPs_ok : ∀ (l : List Dv) (vs : List V) (ps : List PyData), VRs K L io H vs l → toPs l = some ps → DpAll K H vs ps
  | [], vs, ps, r, e => by cases r; simp [toPs] at e; subst e; exact .nil
  | d :: l, vs, ps, r, e => by
    cases r with
    | cons h t =>
      simp only [toPs] at e
      cases q : toP d with
      | none => rw [q] at e; cases e
      | some p =>
        rw [q] at e
        cases q2 : toPs l with
        | none => rw [q2] at e; cases e
        | some ps' =>
          rw [q2] at e
          cases e
          exact .cons (toP_ok d _ p h q) (toPs_ok l _ ps' t q2)
end
theorem deref_all (n : Nat) (ih : ∀ (d : Dv) (v : V) (p : PyData), VR K L io H v d → toP (deref n S d) = some p → Dp K H v p) : ∀ (l : List Dv) (vs : List V) (ps : List PyData), VRs K L io H vs l → toPs (l.map (deref n S)) = some ps → DpAll K H vs ps
  | [], vs, ps, r, e => by cases r; simp [toPs] at e; subst e; exact .nil
  | d :: l, vs, ps, r, e => by
    cases r with
    | cons h t =>
      simp only [toPs, List.map_cons] at e
      cases q : toP (deref n S d) with
      | none => rw [q] at e; cases e
      | some p =>
        rw [q] at e
        cases q2 : toPs (l.map (deref n S)) with
        | none => rw [q2] at e; cases e
        | some ps' =>
          rw [q2] at e
          cases e
          exact .cons (ih d _ p h q) (deref_all n ih l _ ps' t q2)
theorem deref_dp (sr : SR K L io H S) : ∀ (n : Nat) (d : Dv) (v : V) (p : PyData), VR K L io H v d → toP (deref n S d) = some p → Dp K H v p
  | 0, d, v, p, r, e => toP_ok d v p r e
  | n + 1, .tup l, v, p, r, e => by
    obtain ⟨a, xs, rfl, s, t⟩ := r.tupS
    simp only [deref, toP] at e
    cases q : toPs (l.map (deref n S)) with
    | none => rw [q] at e; cases e
    | some ps => rw [q] at e; cases e; exact .tup s (deref_all n (deref_dp sr n) l xs ps t q)
  | n + 1, .lst l, v, p, r, e => by
    simp only [deref, toP] at e
    cases q : toPs (l.map (deref n S)) with
    | none => rw [q] at e; cases e
    | some ps =>
      rw [q] at e; cases e
      cases r with
      | lst nl h t => exact .lst (SqL.of h) (deref_all n (deref_dp sr n) l _ ps t q)
  | n + 1, .rol l, v, p, r, e => by
    simp only [deref, toP] at e
    cases q : toPs (l.map (deref n S)) with
    | none => rw [q] at e; cases e
    | some ps =>
      rw [q] at e; cases e
      cases r with
      | rol nl h t => exact .lst (.inl h) (deref_all n (deref_dp sr n) l _ ps t q)
      | rolK h t => exact .lst (h H) (deref_all n (deref_dp sr n) l _ ps t q)
  | n + 1, .hdl k, v, p, r, e => by
    cases q0 : S[k]? with
    | none => simp only [deref, q0, toP] at e; cases e
    | some o =>
      cases o with
      | lst l =>
        simp only [deref, q0, toP] at e
        cases q : toPs (l.map (deref n S)) with
        | none => rw [q] at e; cases e
        | some ps =>
          rw [q] at e; cases e
          cases r with
          | hdl hk =>
            obtain ⟨xs, h, t⟩ := sr.obj k _ _ hk q0
            exact .lst (SqL.of h) (deref_all n (deref_dp sr n) l xs ps t q)
      | dct l => simp only [deref, q0, toP] at e; cases e
      | ins c fs => simp only [deref, q0, toP] at e; cases e
  | n + 1, .non, v, p, r, e => toP_ok _ v p r e
  | n + 1, .bl _, v, p, r, e => toP_ok _ v p r e
  | n + 1, .int _, v, p, r, e => toP_ok _ v p r e
  | n + 1, .str _, v, p, r, e => toP_ok _ v p r e
  | n + 1, .dic _, v, p, r, e => by simp [deref, toP] at e
  | n + 1, .obj _ _, v, p, r, e => toP_ok _ v p r e
  | n + 1, .glo _, v, p, r, e => toP_ok _ v p r e
  | n + 1, .ty _, v, p, r, e => toP_ok _ v p r e
/-- as a whole -/
def res (S : Sto) (d : Dv) : Dv := deref 40 S d
theorem res_dp (sr : SR K L io H S) {v : V} {d : Dv} {p : PyData} (r : VX K L io H v d) (e : toP (res S d) = some p) : Dp K H v p := by
  rcases r with r | ⟨a, o, rfl, rfl, np, ob⟩
  · exact deref_dp sr 40 d v p r e
  · cases o with
    | lst l =>
      simp only [vwO, res, deref, toP] at e
      cases q : toPs (l.map (deref 39 S)) with
      | none => rw [q] at e; cases e
      | some ps =>
        rw [q] at e; cases e
        obtain ⟨xs, h, t⟩ := ob
        exact .lst (SqL.of h) (deref_all 39 (deref_dp sr 39) l xs ps t q)
    | dct l => simp [vwO, res, deref, toP] at e
    | ins c fs => simp [vwO, res, deref, toP] at e
end
/-- two lists of unlike lengths -/
def lenNe : Option (List Dv) → Option (List Dv) → Bool
  | some l, some m => l.length != m.length
  | _, _ => false
def deepE (S : Sto) (a b : Dv) : Option Bool := (toP (res S a)).bind fun p => (toP (res S b)).bind fun q => if SeqAt.shaped p && SeqAt.shaped q then some (PyData.eqv p q) else none
def eqD (S : Sto) : Dv → Dv → Option Bool
  | .str x, .str y => some (decide (x = y))
  | .int x, .int y => some (decide (x = y))
  | .bl x, .bl y => some (decide (x = y))
  | .non, .non => some true
  | .non, .int _ => some false
  | .non, .bl _ => some false
  | .non, .str _ => some false
  | .int _, .non => some false
  | .int _, .str _ => some false
  | .bl _, .non => some false
  | .bl _, .str _ => some false
  | .str _, .non => some false
  | .str _, .int _ => some false
  | .str _, .bl _ => some false
  | a, b => if lenNe (asL S a) (asL S b) then some false else deepE S a b
def eqE : Sto → Dv → Dv → Option (Dv × Sto) := fun S a b => (eqD S a b).map fun c => (.bl c, S)
def neE : Sto → Dv → Dv → Option (Dv × Sto) := fun S a b => (eqD S a b).map fun c => (.bl (!c), S)
/-- two lists of unlike lengths -/
def rLen (K : PySem.W.Frag) (b : Bool) : R2 := fun x y H Q => ∃ p q xs ys, x = .ref p ∧ y = .ref q ∧ SqL K H p xs ∧ SqL K H q ys ∧ xs.length ≠ ys.length ∧ Q (.bl b) H
theorem op_eqLen {X : Cx} (hu : X.A.units < cLine) : OpR X (compareOp .Eq) (rLen X.K false) := by
  rintro pins s σ H x y v u Q I rx ry ⟨p, q, xs, ys, rfl, rfl, h1, h2, hl, z⟩
  cases rx; cases ry
  obtain ⟨its, r1, l1, _⟩ := I.list h1
  obtain ⟨its2, r2, l2, _⟩ := I.list h2
  refine SeqAt.eq_list_lengthsAt l1.isList l2.isList ?_ hu ⟨.bl _, H, I, rfl, z⟩
  rw [List.size_toArray, List.size_toArray, ← r1.length, ← r2.length]
  simpa using hl
theorem op_neLen {X : Cx} (hu : X.A.units < cLine) : OpR X (compareOp .NotEq) (rLen X.K true) := by
  rintro pins s σ H x y v u Q I rx ry ⟨p, q, xs, ys, rfl, rfl, h1, h2, hl, z⟩
  cases rx; cases ry
  obtain ⟨its, r1, l1, _⟩ := I.list h1
  obtain ⟨its2, r2, l2, _⟩ := I.list h2
  refine SeqAt.RcNeAt.lists_lengths l1.isList l2.isList ?_ hu _ _ _ _ ⟨.bl _, H, I, rfl, z⟩
  rw [List.size_toArray, List.size_toArray, ← r1.length, ← r2.length]
  simpa using hl
def rEqA (K : PySem.W.Frag) : R2 := fun x y H Q => (rEq x y H Q ∨ rEqD K x y H Q) ∨ rLen K false x y H Q
def rNeA (K : PySem.W.Frag) : R2 := fun x y H Q => (rNe x y H Q ∨ rNeD K x y H Q) ∨ rLen K true x y H Q
theorem eqD_deep {S : Sto} {a b : Dv} {c : Bool} (e : eqD S a b = some c) : (∃ x y : V, scal x y = true ∧ c = decide (x = y) ∧ ∀ (K : PySem.W.Frag) L io H v w, VX K L io H v a → VX K L io H w b → v = x ∧ w = y) ∨ (∃ p q, toP (res S a) = some p ∧ toP (res S b) = some q ∧ SeqAt.shaped p = true ∧ SeqAt.shaped q = true ∧ c = PyData.eqv p q) ∨ ∃ l m, asL S a = some l ∧ asL S b = some m ∧ l.length ≠ m.length ∧ c = false := by
  have deep : (if lenNe (asL S a) (asL S b) then some false else deepE S a b) = some c → (∃ p q, toP (res S a) = some p ∧ toP (res S b) = some q ∧ SeqAt.shaped p = true ∧ SeqAt.shaped q = true ∧ c = PyData.eqv p q) ∨ ∃ l m, asL S a = some l ∧ asL S b = some m ∧ l.length ≠ m.length ∧ c = false := by
    intro e
    split at e
    · rename_i hl
      cases e
      cases h1 : asL S a with
      | none => rw [h1] at hl; cases hl
      | some l =>
        cases h2 : asL S b with
        | none => rw [h1, h2] at hl; cases hl
        | some m => rw [h1, h2] at hl; exact .inr ⟨l, m, rfl, rfl, by simpa [lenNe] using hl, rfl⟩
    · unfold deepE at e
      cases h1 : toP (res S a) with
      | none => rw [h1] at e; cases e
      | some p =>
        cases h2 : toP (res S b) with
        | none => rw [h1, h2] at e; cases e
        | some q =>
          rw [h1, h2] at e
          simp only [Option.bind_some] at e
          split at e
          · rename_i hs
            simp only [Bool.and_eq_true] at hs
            cases e
            exact .inl ⟨p, q, rfl, rfl, hs.1, hs.2, rfl⟩
          · cases e
  cases a <;> cases b <;> first
    | exact .inr (deep e)
    | (refine .inl ⟨_, _, ?_, ?_, fun K L io H v w r1 r2 => by cases r1.vr rfl; cases r2.vr rfl; exact ⟨rfl, rfl⟩⟩
       · rfl
       · cases e; first
          | rfl
          | (simp))
theorem ops_eq {K : PySem.W.Frag} : OpS K (rEqA K) eqE := by
  intro L io H S x y a b d S' Q sr ra rb e q
  unfold eqE at e
  cases h : eqD S a b with
  | none => rw [h] at e; cases e
  | some c =>
    rw [h] at e; cases e
    have fin := q (.bl c) H L io (Stp.refl ..) sr (.bl c)
    rcases eqD_deep h with ⟨x', y', h1, rfl, h3⟩ | ⟨p, p', h1, h2, h3, h4, rfl⟩ | ⟨l, m, h1, h2, h3, rfl⟩
    · obtain ⟨rfl, rfl⟩ := h3 K L io H x y ra rb
      exact .inl (.inl ⟨h1, fin⟩)
    · exact .inl (.inr ⟨p, p', res_dp sr ra h1, res_dp sr rb h2, h3, h4, fin⟩)
    · obtain ⟨p, xs, rfl, s1, t1⟩ := asL_x sr ra h1
      obtain ⟨q, ys, rfl, s2, t2⟩ := asL_x sr rb h2
      exact .inr ⟨p, q, xs, ys, rfl, rfl, s1, s2, by rw [t1.len, t2.len]; exact h3, fin⟩
theorem ops_ne {K : PySem.W.Frag} : OpS K (rNeA K) neE := by
  intro L io H S x y a b d S' Q sr ra rb e q
  unfold neE at e
  cases h : eqD S a b with
  | none => rw [h] at e; cases e
  | some c =>
    rw [h] at e; cases e
    have fin := q (.bl (!c)) H L io (Stp.refl ..) sr (.bl _)
    rcases eqD_deep h with ⟨x', y', h1, rfl, h3⟩ | ⟨p, p', h1, h2, h3, h4, rfl⟩ | ⟨l, m, h1, h2, h3, rfl⟩
    · obtain ⟨rfl, rfl⟩ := h3 K L io H x y ra rb
      exact .inl (.inl ⟨h1, fin⟩)
    · exact .inl (.inr ⟨p, p', res_dp sr ra h1, res_dp sr rb h2, h3, h4, fin⟩)
    · obtain ⟨p, xs, rfl, s1, t1⟩ := asL_x sr ra h1
      obtain ⟨q, ys, rfl, s2, t2⟩ := asL_x sr rb h2
      exact .inr ⟨p, q, xs, ys, rfl, rfl, s1, s2, by rw [t1.len, t2.len]; exact h3, fin⟩
section
variable {X : Cx} {W : WX} {pos : Pos} {a b : Expr} {f1 f2 : DE} {k : Nat}
theorem op_eqA (hr : Room k X.A) : OpR X (compareOp .Eq) (rEqA X.K) := (op_eq.or (op_eqD hr.units)).or (op_eqLen hr.units0)
theorem op_neA (hr : Room k X.A) : OpR X (compareOp .NotEq) (rNeA X.K) := (op_ne.or (op_neD hr.units)).or (op_neLen hr.units0)
theorem qe_eq (hr : Room k X.A) (ha : QX X W a f1) (hb : QX X W b f2) : QE X W (.Compare a [.Eq] [b] pos) (eBin eqE f1 f2) := qe_cmp (op_eqA hr) ops_eq ha hb
theorem qe_ne (hr : Room k X.A) (ha : QX X W a f1) (hb : QX X W b f2) : QE X W (.Compare a [.NotEq] [b] pos) (eBin neE f1 f2) := qe_cmp (op_neA hr) ops_ne ha hb
theorem qt_eq (hr : Room k X.A) (ha : QX X W a f1) (hb : QX X W b f2) : QT X W (.Compare a [.Eq] [b] pos) (tVal (eBin eqE f1 f2)) := qt_cmp (op_eqA hr) ops_eq ha hb
theorem qt_ne (hr : Room k X.A) (ha : QX X W a f1) (hb : QX X W b f2) : QT X W (.Compare a [.NotEq] [b] pos) (tVal (eBin neE f1 f2)) := qt_cmp (op_neA hr) ops_ne ha hb
end
def flatD : Dv → Bool
  | .non => true
  | .bl _ => true
  | .int _ => true
  | .str _ => true
  | _ => false
def eqF : Dv → Dv → Bool
  | .non, .non => true
  | .bl a, .bl b => a == b
  | .bl a, .int b => (if a then 1 else 0) == b
  | .int a, .bl b => a == (if b then 1 else 0)
  | .int a, .int b => a == b
  | .str a, .str b => a == b
  | _, _ => false
def inF (x : Dv) (l : List Dv) : Bool := l.any fun y => eqF y x
def asQ (S : Sto) (d : Dv) : Option (List Dv) := match asT d with
  | some l => some l
  | none => asL S d
theorem asQ_x {K : PySem.W.Frag} {L : Addr → Prop} {io : List Addr} {H : Hp} {S : Sto} {v : V} {d : Dv} {l : List Dv} (s : SR K L io H S) (r : VX K L io H v d) (h : asQ S d = some l) : ∃ a xs, v = .ref a ∧ (SqL K H a xs ∨ SqT K H a xs) ∧ VRs K L io H xs l := by
  unfold asQ at h
  cases q : asT d with
  | some m =>
    rw [q] at h; cases h
    obtain ⟨a, xs, h1, h2, h3⟩ := asT_x r q
    exact ⟨a, xs, h1, .inr h2, h3⟩
  | none =>
    rw [q] at h
    obtain ⟨a, xs, h1, h2, h3⟩ := asL_x s r h
    exact ⟨a, xs, h1, .inl h2, h3⟩
def inD (neg : Bool) (S : Sto) (x y : Dv) : Option (Dv × Sto) := match y with
  | .str t => match x with
    | .str s => some (.bl (if neg then !(!(Builtin.Str.occurrences t s 0 t.length 1).isEmpty) else !(Builtin.Str.occurrences t s 0 t.length 1).isEmpty), S)
    | _ => none
  | _ => (asQ S y).bind fun l => if flatD x && l.all flatD then some (.bl (if neg then !inF x l else inF x l), S) else none
section
variable {K : PySem.W.Frag} {L : Addr → Prop} {io : List Addr} {H : Hp}
theorem flat_ok {v : V} {d : Dv} (r : VR K L io H v d) (h : flatD d = true) : flatV v = true := by
  cases r <;> first | rfl | cases h
theorem flats_ok : ∀ {vs : List V} {l : List Dv}, VRs K L io H vs l → l.all flatD = true → vs.all flatV = true
  | _, _, .nil, _ => rfl
  | _, _, .cons r t, h => by
    rw [List.all_cons, Bool.and_eq_true] at h
    rw [List.all_cons, flat_ok r h.1, flats_ok t h.2]
    rfl
theorem eqF_ok {v w : V} {a b : Dv} (r1 : VR K L io H v a) (r2 : VR K L io H w b) (h1 : flatD a = true) (h2 : flatD b = true) : eqV v w = eqF a b := by
  cases r1 <;> first | (cases h1; done) | (cases r2 <;> first | rfl | cases h2)
theorem inF_ok {v : V} {x : Dv} (r : VR K L io H v x) (hx : flatD x = true) : ∀ {vs : List V} {l : List Dv}, VRs K L io H vs l → l.all flatD = true → inV v vs = inF x l
  | _, _, .nil, _ => rfl
  | _, _, .cons q t, h => by
    rw [List.all_cons, Bool.and_eq_true] at h
    have ih := inF_ok r hx t h.2
    unfold inV inF at ih ⊢
    rw [List.any_cons, List.any_cons, ih, eqF_ok q r h.1 hx]
end
theorem ops_inN {K : PySem.W.Frag} (neg : Bool) : OpS K (fun x y H Q => rIn K neg x y H Q ∨ ∃ i j, x = .str i ∧ y = .str j ∧ Q (.bl (if neg then !(!(Builtin.Str.occurrences j i 0 j.length 1).isEmpty) else !(Builtin.Str.occurrences j i 0 j.length 1).isEmpty)) H) (inD neg) := by
  intro L io H S x y a b d S' Q sr ra rb e q
  have seq : ((asQ S b).bind fun l => if flatD a && l.all flatD then some (Dv.bl (if neg then !inF a l else inF a l), S) else none) = some (d, S') → rIn K neg x y H Q := by
    intro e
    cases h : asQ S b with
    | none => rw [h] at e; cases e
    | some l =>
      rw [h] at e
      simp only [Option.bind_some] at e
      split at e
      · rename_i hf
        rw [Bool.and_eq_true] at hf
        cases e
        obtain ⟨p, xs, rfl, hs, t⟩ := asQ_x sr rb h
        have ra' := ra.vr (by cases a <;> first | rfl | cases hf.1)
        refine ⟨p, xs, rfl, hs, flat_ok ra' hf.1, flats_ok t hf.2, ?_⟩
        rw [inF_ok ra' hf.1 t hf.2]
        exact q _ H L io (Stp.refl ..) sr (.bl _)
      · cases e
  cases b with
  | str t =>
    cases a with
    | str s =>
      cases e; cases ra.vr rfl; cases rb.vr rfl
      exact .inr ⟨s, t, rfl, rfl, q _ H L io (Stp.refl ..) sr (.bl _)⟩
    | _ => cases e
  | _ => exact .inl (seq e)
section
variable {X : Cx} {W : WX} {pos : Pos} {a b : Expr} {f1 f2 : DE}
theorem qe_in (ha : QX X W a f1) (hb : QX X W b f2) (hm : behindInMarks .In b = false := by rfl) : QE X W (.Compare a [.In] [b] pos) (eBin (inD false) f1 f2) := qe_cmp (op_in_seq.or op_in_str) (ops_inN false) ha hb hm
theorem qe_ni (ha : QX X W a f1) (hb : QX X W b f2) (hm : behindInMarks .NotIn b = false := by rfl) : QE X W (.Compare a [.NotIn] [b] pos) (eBin (inD true) f1 f2) := qe_cmp (op_notIn_seq.or op_notin_str) (ops_inN true) ha hb hm
theorem qt_ni (ha : QX X W a f1) (hb : QX X W b f2) (hm : behindInMarks .NotIn b = false := by rfl) : QT X W (.Compare a [.NotIn] [b] pos) (tVal (eBin (inD true) f1 f2)) := qt_cmp (op_notIn_seq.or op_notin_str) (ops_inN true) ha hb hm
end
def isD (neg : Bool) : Dv → Dv → Option Dv
  | a, .non => some (.bl (match a with
    | .non => !neg
    | _ => neg))
  | .bl x, .bl y => some (.bl (if neg then !decide (x = y) else decide (x = y)))
  | _, _ => none
theorem ops_is {K : PySem.W.Frag} : OpS K (fun x y H Q => (y = .non ∧ Q (.bl (decide (x = .non))) H) ∨ rIsB x y H Q) (pu2 (isD false)) := by
  intro L io H S x y a b d S' Q sr ra rb e q
  obtain ⟨e, rfl⟩ := pu2_ok e
  cases b with
  | non =>
    cases e; cases rb.vr rfl
    refine .inl ⟨rfl, ?_⟩
    have := q _ H L io (Stp.refl ..) sr (.bl _)
    rcases ra with ra | ⟨p, o, rfl, rfl, _⟩
    · cases ra <;> exact this
    · cases o <;> exact this
  | bl z =>
    cases a with
    | bl y =>
      cases e; cases ra.vr rfl; cases rb.vr rfl
      exact .inr ⟨y, z, rfl, rfl, q _ H L io (Stp.refl ..) sr (.bl _)⟩
    | _ => cases e
  | _ => cases a <;> cases e
section
variable {X : Cx} {W : WX} {pos : Pos} {a b : Expr} {f1 f2 : DE}
theorem qe_is (ha : QX X W a f1) (hb : QX X W b f2) : QE X W (.Compare a [.Is] [b] pos) (eBin (pu2 (isD false)) f1 f2) := qe_cmp (op_isN.or op_isBl) ops_is ha hb
theorem qt_is (ha : QX X W a f1) (hb : QX X W b f2) : QT X W (.Compare a [.Is] [b] pos) (tVal (eBin (pu2 (isD false)) f1 f2)) := qt_cmp (op_isN.or op_isBl) ops_is ha hb
end
end DL
namespace DL
open PySem L2
def truD (S : Sto) : Dv → Option Bool
  | .non => some false
  | .bl b => some b
  | .int i => some (i != 0)
  | .str x => if x.length ≤ sizeLine then some ((x.length : Int) != 0) else none
  | .tup l => some (!l.isEmpty)
  | .lst l => some (!l.isEmpty)
  | .rol l => some (!l.isEmpty)
  | .dic l => some (!l.isEmpty)
  | .hdl k => match S[k]? with
    | some (.lst l) => some (!l.isEmpty)
    | some (.dct l) => some (!l.isEmpty)
    | _ => none
  | _ => none
/-- a value's truth, of a locked dict, too -/
def TruW (K : PySem.W.Frag) (x : V) (H : Hp) (k : Bool) : Prop := TruV K x H k ∨ ∃ p kvs, x = .ref p ∧ Rd H p (.dK kvs) ∧ k = !kvs.isEmpty
theorem truW_ok {X : Cx} : TruR X (fun x H Q => ∃ k, TruW X.K x H k ∧ Q k H) := by
  intro pins s σ H x v Q I rx ⟨k, e, q⟩
  rcases e with e | ⟨p, kvs, rfl, hx, rfl⟩
  · exact tru_ok pins s σ H x v Q I rx ⟨k, e, q⟩
  · cases rx
    have hl := line63
    have hs : sizeLine = 16777216 := sizeLine_eq
    obtain ⟨hz, hS, vs, r, m⟩ := dk_rd I.hok hx
    have hlen : kvs.length = vs.length := Paired.length r
    exact wpAny_truthy_dict hS m (by omega) ⟨H, I.tok _, by rw [isEmpty_kv r]; exact q⟩
open PySem.Spec PyProof.Rows in
theorem pt_truthW {X : Cx} {a : Expr} {ta : TE} (ha : PE X a ta) (he : ∀ whole, isTrue a X.env whole = (do let v ← whole; standAt a.pos; holding [v] (truthy v))) :
    PT X a (fun σ H Q => ta σ H fun x H' => ∃ k, TruW X.K x H' k ∧ Q k H') := by
  refine ⟨fun pins s σ H Q I h => ?_⟩
  exact isTrue_plain (thn (ha.run pins s σ H _ I h) fun v s1 ⟨x, H1, I1, r1, q1⟩ => truW_ok pins s1 σ H1 x v Q I1 r1 q1) (he _)
section
variable {X : Cx} {a b : Expr} {ta tb : TE} {rest : List Expr} {pos : Pos}
def tOrW (K : PySem.W.Frag) (ta tb : TE) : TE := fun σ H Q => ta σ H fun x H1 => ∃ k, TruW K x H1 k ∧ if k = true then Q x H1 else tb σ H1 Q
def tAndW (K : PySem.W.Frag) (ta tb : TE) : TE := fun σ H Q => ta σ H fun x H1 => ∃ k, TruW K x H1 k ∧ if k = true then tb σ H1 Q else Q x H1
open PySem.Spec PyProof.Rows in
theorem pe_orW (ha : PE X a ta) (hb : PE X (.BoolOp .Or (b :: rest) pos) tb) : PE X (.BoolOp .Or (a :: b :: rest) pos) (tOrW X.K ta tb) := by
  refine ⟨fun pins s σ H Q I h => ?_⟩
  refine BoolOp_or (thn (ha.run pins s σ H _ I h) fun v s1 ⟨x, H1, I1, r1, q1⟩ => ?_)
  obtain ⟨k, e, q1⟩ := q1
  refine thn (truW_ok pins s1 σ H1 x v (fun c H2 => c = k ∧ H2 = H1) I1 r1 ⟨k, e, rfl, rfl⟩) fun c s2 hc => ?_
  obtain ⟨H2, I2, e1, e2⟩ := hc
  rw [e2] at I2
  rw [← e1] at q1
  cases c with
  | true => exact ⟨x, H1, I2, r1, q1⟩
  | false => exact hb.run pins s2 σ H1 Q I2 q1
open PySem.Spec PyProof.Rows in
theorem pe_andW (ha : PE X a ta) (hb : PE X (.BoolOp .And (b :: rest) pos) tb) : PE X (.BoolOp .And (a :: b :: rest) pos) (tAndW X.K ta tb) := by
  refine ⟨fun pins s σ H Q I h => ?_⟩
  refine BoolOp_and (thn (ha.run pins s σ H _ I h) fun v s1 ⟨x, H1, I1, r1, q1⟩ => ?_)
  obtain ⟨k, e, q1⟩ := q1
  refine thn (truW_ok pins s1 σ H1 x v (fun c H2 => c = k ∧ H2 = H1) I1 r1 ⟨k, e, rfl, rfl⟩) fun c s2 hc => ?_
  obtain ⟨H2, I2, e1, e2⟩ := hc
  rw [e2] at I2
  rw [← e1] at q1
  cases c with
  | true => exact hb.run pins s2 σ H1 Q I2 q1
  | false => exact ⟨x, H1, I2, r1, q1⟩
end
section
variable {K : PySem.W.Frag} {L : Addr → Prop} {io : List Addr} {H : Hp} {S : Sto}
theorem VRs.empty {vs : List V} {l : List Dv} (r : VRs K L io H vs l) : vs.isEmpty = l.isEmpty := by cases r <;> rfl
theorem PairR.len {α : Type} {R : V → Dv → Prop} : ∀ {l : List (α × V)} {m : List (α × Dv)}, PairR R l m → l.length = m.length
  | _, _, .nil => rfl
  | _, _, .cons _ t => by rw [List.length_cons, List.length_cons, PairR.len t]
theorem truD_ok0 (s : SR K L io H S) {v : V} {d : Dv} {b : Bool} (rx : VX K L io H v d) (hd : ∀ l, d ≠ .dic l) (e : truD S d = some b) : TruV K v H b := by
  have seq : ∀ {l : List Dv}, asL S d = some l → b = !l.isEmpty → TruV K v H b := fun h eb => by
    obtain ⟨a, xs, rfl, h1, h2⟩ := asL_x s rx h
    exact .inl ⟨xs, h1, by rw [h2.empty]; exact eb⟩
  cases d with
  | non => cases rx.vr rfl; cases e; rfl
  | bl => cases rx.vr rfl; cases e; rfl
  | int => cases rx.vr rfl; cases e; rfl
  | str x =>
    cases rx.vr rfl
    simp only [truD] at e
    split at e
    · rename_i h; cases e; exact ⟨h, rfl⟩
    · cases e
  | tup l =>
    obtain ⟨a, xs, rfl, h1, h2⟩ := (rx.vr rfl).tupS
    cases e
    exact .inr (.inl ⟨xs, h1, by rw [h2.empty]⟩)
  | lst l => cases e; exact seq rfl rfl
  | rol l => cases e; exact seq rfl rfl
  | dic l => exact absurd rfl (hd l)
  | hdl k =>
    have r := rx.vr rfl
    cases q : S[k]? with
    | none => simp [truD, q] at e
    | some o =>
      cases o with
      | lst l =>
        simp [truD, q] at e
        exact seq (l := l) (by simp [asL, q]) (by rw [e]; simp)
      | dct l =>
        simp [truD, q] at e
        cases r with
        | hdl hk =>
          obtain ⟨kvs, h1, h2⟩ := s.obj k _ _ hk q
          refine .inr (.inr ⟨kvs, h1, ?_⟩)
          have e2 : kvs.isEmpty = l.isEmpty := by cases h2 <;> rfl
          rw [e2, e]
          simp
      | ins => simp [truD, q] at e
  | _ => simp [truD] at e
theorem truD_ok (s : SR K L io H S) {v : V} {d : Dv} {b : Bool} (rx : VX K L io H v d) (e : truD S d = some b) : TruW K v H b := by
  cases d with
  | dic l =>
    cases e
    rcases rx with r | ⟨p, o, rfl, h, np, ob⟩
    · cases r with
      | dic n h t =>
        refine .inr ⟨_, _, rfl, h, ?_⟩
        cases t <;> rfl
    · cases o with
      | dct m =>
        cases h
        obtain ⟨kvs, h1, h2⟩ := ob
        refine .inr ⟨p, kvs, rfl, .inl h1, ?_⟩
        cases h2 <;> rfl
      | _ => cases h
  | _ => exact .inl (truD_ok0 s rx (fun l z => nomatch z) e)
end
def truR (a : Dv) (S : Sto) : Res Bool := ofO ((truD S a).map fun b => (b, S))
def tTru (f : DE) : DT := fun e S => bnd (f e S) truR
theorem map_ok {α β : Type} {o : Option α} {f : α → β} {b : β} (h : o.map f = some b) : ∃ a, o = some a ∧ f a = b := by
  cases o with
  | none => cases h
  | some a => exact ⟨a, rfl, Option.some.inj h⟩
section
variable {X : Cx} {W : WX} {pos : Pos} {a b c : Expr} {f f1 f2 : DE} {t1 t2 : DT} {rest : List Expr}
theorem qt_tru (ha : QX X W a f) (he : ∀ whole, isTrue a X.env whole = (do let v ← whole; standAt a.pos; holding [v] (truthy v)) := by intro _; rfl) : QT X W a (tTru f) :=
  pt_imp (pt_truthW ha he) fun g H Q q => by
    refine Rdg.bind (R := VX X.K) (k := fun _ => truR) q fun L0 io0 H0 L io H1 e S d v fr rv q => ?_
    obtain ⟨d, S', h1, h2⟩ := q.opt
    obtain ⟨b, h3, h4⟩ := map_ok h1
    cases h4
    exact ⟨_, truD_ok fr.st rv h3, h2 _ H1 L io (Stp.refl ..) fr.st rfl⟩
/-- and, or, not as tests -/
def tAnd' (t1 t2 : DT) : DT := fun e S => bnd (t1 e S) fun b S1 => if b then t2 e S1 else .ok false S1
def tOr' (t1 t2 : DT) : DT := fun e S => bnd (t1 e S) fun b S1 => if b then .ok true S1 else t2 e S1
def tNot' (t1 : DT) : DT := fun e S => bnd (t1 e S) fun b S1 => .ok (!b) S1
theorem rd_and {K : PySem.W.Frag} {g : St} {H : Hp} {Q : Bool → Hp → Prop} (q : rdt K W (tAnd' t1 t2) g H Q) : tAnd (rdt K W t1) (rdt K W t2) g H Q := by
  refine Rdg.bind (R := fun _ _ _ (v : Bool) d => v = d) (k := fun e b S1 => if b then t2 e S1 else .ok false S1) q fun L0 io0 H0 L io H1 e S d v fr rv q => ?_
  subst rv
  cases v with
  | true => exact (iteT (Fin.rdg fr q))
  | false => exact (iteF (q.ok1 fr.st rfl))
theorem rd_or {K : PySem.W.Frag} {g : St} {H : Hp} {Q : Bool → Hp → Prop} (q : rdt K W (tOr' t1 t2) g H Q) : tOr (rdt K W t1) (rdt K W t2) g H Q := by
  refine Rdg.bind (R := fun _ _ _ (v : Bool) d => v = d) (k := fun e b S1 => if b then .ok true S1 else t2 e S1) q fun L0 io0 H0 L io H1 e S d v fr rv q => ?_
  subst rv
  cases v with
  | true => exact (iteT (q.ok1 fr.st rfl))
  | false => exact (iteF (Fin.rdg fr q))
abbrev QW (X : Cx) (W : WX) (e : Expr) (f : DT) : Prop := PW X e (rdt X.K W f)
theorem qw_and1 (ha : QT X W a t1) : QW X W (.BoolOp .And [a] pos) t1 := pw_and1 ha
theorem qw_or1 (ha : QT X W a t1) : QW X W (.BoolOp .Or [a] pos) t1 := pw_or1 ha
theorem qw_and (ha : QT X W a t1) (hb : QW X W (.BoolOp .And (b :: rest) pos) t2) : QW X W (.BoolOp .And (a :: b :: rest) pos) (tAnd' t1 t2) := pw_imp (pw_and ha hb) fun _ _ _ q => rd_and q
theorem qw_or (ha : QT X W a t1) (hb : QW X W (.BoolOp .Or (b :: rest) pos) t2) : QW X W (.BoolOp .Or (a :: b :: rest) pos) (tOr' t1 t2) := pw_imp (pw_or ha hb) fun _ _ _ q => rd_or q
theorem qt_w (h : QW X W a t1) : QT X W a t1 := PW.pt h
theorem qt_not (ha : QT X W a t1) : QT X W (.UnaryOp .Not a pos) (tNot' t1) := pt_imp (pt_not ha) fun g H Q q => by
  refine Rdg.bind (R := fun _ _ _ (v : Bool) d => v = d) (k := fun e b S1 => .ok (!b) S1) q fun L0 io0 H0 L io H1 e S d v fr rv q => ?_
  subst rv
  exact q.ok1 fr.st rfl
/-- a if t else b -/
def eIf (t : DT) (f1 f2 : DE) : DE := fun e S => bnd (t e S) fun b S1 => if b then f1 e S1 else f2 e S1
theorem qe_if (hc : QT X W c t1) (ha : QE X W a f1) (hb : QE X W b f2) : QE X W (.IfExp c a b pos) (eIf t1 f1 f2) := pe_imp (pe_ifExp hc ha hb) fun g H Q q => by
  refine Rdg.bind (R := fun _ _ _ (v : Bool) d => v = d) (k := fun e b S1 => if b then f1 e S1 else f2 e S1) q fun L0 io0 H0 L io H1 e S d v fr rv q => ?_
  subst rv
  cases v with
  | true => exact (iteT (Fin.rdg fr q))
  | false => exact (iteF (Fin.rdg fr q))
/-- and, or, not as values -/
def eAnd (f1 f2 : DE) : DE := fun e S => bnd (f1 e S) fun a S1 => bnd (truR a S1) fun k S2 => if k then f2 e S2 else .ok a S2
def eOr (f1 f2 : DE) : DE := fun e S => bnd (f1 e S) fun a S1 => bnd (truR a S1) fun k S2 => if k then .ok a S2 else f2 e S2
def eNot (f1 : DE) : DE := fun e S => bnd (f1 e S) fun a S1 => bnd (truR a S1) fun k S2 => .ok (.bl (!k)) S2
theorem Fin.tru {α' β' : Type} {K : PySem.W.Frag} {R' : (Addr → Prop) → List Addr → Hp → β' → α' → Prop} {g : St} {L : Addr → Prop} {io : List Addr} {H : Hp} {Q : β' → Hp → Prop} {k : Bool → Sto → Res α'} {a : Dv} {v : V} {S : Sto} (h : Fin K W R' g L io H Q (bnd (truR a S) k)) (sr : SR K L io H S) (r : VR K L io H v a) :
    ∃ b, TruW K v H b ∧ Fin K W R' g L io H Q (k b S) := by
  unfold truR at h
  cases q : truD S a with
  | none => rw [q] at h; exact h.elim
  | some b => rw [q] at h; exact ⟨b, truD_ok sr (.inl r) q, h⟩
theorem qe_one {op} (h : QE X W a f) : QE X W (.BoolOp op [a] pos) f := pe_one h
theorem qe_and (ha : QE X W a f1) (hb : QE X W (.BoolOp .And (b :: rest) pos) f2) : QE X W (.BoolOp .And (a :: b :: rest) pos) (eAnd f1 f2) := pe_imp (pe_andW ha hb) fun g H Q q => by
  refine Rdg.bind (R := VR X.K) (k := fun e a S1 => bnd (truR a S1) fun k S2 => if k then f2 e S2 else .ok a S2) q fun L0 io0 H0 L io H1 e S d v fr rv q => ?_
  obtain ⟨k, h1, q⟩ := q.tru fr.st rv
  refine ⟨k, h1, ?_⟩
  cases k with
  | true => exact (iteT (Fin.rdg fr q))
  | false => exact (iteF (q.ok1 fr.st rv))
theorem qe_or (ha : QE X W a f1) (hb : QE X W (.BoolOp .Or (b :: rest) pos) f2) : QE X W (.BoolOp .Or (a :: b :: rest) pos) (eOr f1 f2) := pe_imp (pe_orW ha hb) fun g H Q q => by
  refine Rdg.bind (R := VR X.K) (k := fun e a S1 => bnd (truR a S1) fun k S2 => if k then .ok a S2 else f2 e S2) q fun L0 io0 H0 L io H1 e S d v fr rv q => ?_
  obtain ⟨k, h1, q⟩ := q.tru fr.st rv
  refine ⟨k, h1, ?_⟩
  cases k with
  | true => exact (iteT (q.ok1 fr.st rv))
  | false => exact (iteF (Fin.rdg fr q))
variable {es : List Expr} {fa : DA}
def aNil : DA := fun _ S => .ok [] S
def aCons (f : DE) (fa : DA) : DA := fun e S => bnd (f e S) fun d S1 => bnd (fa e S1) fun l S2 => .ok (d :: l) S2
theorem qa_nil : QA X W [] aNil := pa_imp pa_nil fun g H Q q => by
  obtain ⟨L0, io0, H0, L, io, e, S, fr, q⟩ := q
  exact q.ok1 fr.st .nil
theorem qa_cons (ha : QE X W a f) (hr : QA X W es fa) (hs : starEach (a :: es) X.env = (false, eval a X.env) :: starEach es X.env := by rfl) : QA X W (a :: es) (aCons f fa) := pa_imp (pa_cons ha hr hs) fun g H Q q => by
  refine Rdg.bind (R := VR X.K) (k := fun e d S1 => bnd (fa e S1) fun l S2 => .ok (d :: l) S2) q fun L0 io0 H0 L io H1 e S d v fr rv q => ?_
  refine Fin.bind (R := VRs X.K) (k := fun l S2 => .ok (d :: l) S2) fr q fun L2 io2 H2 S2 l w s2 fr2 rw2 q => ?_
  exact q.ok1 fr2.st (.cons (rv.step s2 fr.st.sub) rw2)
def tupR (l : List Dv) (S : Sto) : Res Dv := if l.length ≤ sizeLine then .ok (.tup l) S else .no
def lstR (l : List Dv) (S : Sto) : Res Dv := if l.length ≤ sizeLine then .ok (.lst l) S else .no
def eTup (fa : DA) : DE := fun e S => bnd (fa e S) tupR
def eLst (fa : DA) : DE := fun e S => bnd (fa e S) lstR
theorem qe_tup {x1} (h : QA X W es fa) : QE X W (.Tuple es x1 pos) (eTup fa) := pe_imp (pe_tup h) fun g H Q q => by
  refine Rdg.bind (R := VRs X.K) (k := fun e => tupR) q fun L0 io0 H0 L io H1 e S d v fr rv q => ?_
  unfold tupR at q
  split at q
  · rename_i hl
    exact ⟨by rw [rv.len]; exact hl, fun p hp => q _ _ L io (Stp.alloc hp) (fr.st.alloc hp) (VR.newT fr.st hp rv)⟩
  · exact q.elim
end
section
variable {X : Cx} {W : WX} {a : Expr} {es : List Expr} {f : DE} {fa : DA}
theorem qxs_nil : QXs X W [] aNil := pa_imp pa_nil fun g H Q q => by
  obtain ⟨L0, io0, H0, L, io, e, S, fr, h⟩ := q
  exact h [] H L io (Stp.refl ..) fr.st .nil
theorem VXs.step {K : PySem.W.Frag} {L L' : Addr → Prop} {io io' : List Addr} {H H' : Hp} : ∀ {vs : List V} {l : List Dv}, VXs K L io H vs l → Stp L io H L' io' H' → (∀ x ∈ io, L x) → VXs K L' io' H' vs l
  | _, _, .nil, _, _ => .nil
  | _, _, .cons h t, s, sub => .cons (h.step s sub) (t.step s sub)
theorem qxs_cons (ha : QX X W a f) (hr : QXs X W es fa) (hs : starEach (a :: es) X.env = (false, eval a X.env) :: starEach es X.env := by rfl) : QXs X W (a :: es) (aCons f fa) := pa_imp (pa_cons ha hr hs) fun g H Q q => by
  refine Rdg.bind (R := VX X.K) (k := fun e d S1 => bnd (fa e S1) fun l S2 => .ok (d :: l) S2) q fun L0 io0 H0 L io H1 e S d v fr rv q => ?_
  refine Fin.bind (R := VXs X.K) (k := fun l S2 => .ok (d :: l) S2) fr q fun L2 io2 H2 S2 l vs s2 fr2 rvs q => ?_
  exact q.ok1 fr2.st (.cons (rv.step s2 fr.st.sub) rvs)
end
def CaS (K : PySem.W.Frag) (r : List V → Hp → VK → Prop) (h : Sto → List Dv → Option (Dv × Sto)) : Prop :=
  ∀ (L : Addr → Prop) (io : List Addr) (H : Hp) (S : Sto) (xs : List V) (l : List Dv) (d : Dv) (S' : Sto) (Q : VK), SR K L io H S → VXs K L io H xs l → h S l = some (d, S') →
    (∀ (v : V) (H' : Hp) (L' : Addr → Prop) (io' : List Addr), Stp L io H L' io' H' → SR K L' io' H' S' → VR K L' io' H' v d → Q v H') → r xs H Q
def eCB (h : Sto → List Dv → Option (Dv × Sto)) (fa : DA) : DE := fun e S => bnd (fa e S) fun l S1 => ofO (h S1 l)
theorem rd_cb {K : PySem.W.Frag} {W : WX} {r : List V → Hp → VK → Prop} {h : Sto → List Dv → Option (Dv × Sto)} {fa : DA} (hc : CaS K r h) {g : St} {H : Hp} {Q : VK} (q : rd K W (eCB h fa) g H Q) : tCB r (Rdg K W (VXs K) fa) g H Q := by
  refine Rdg.bind (R := VXs K) (k := fun _ l S1 => ofO (h S1 l)) q fun L0 io0 H0 L io H1 e S l v fr rv q => ?_
  obtain ⟨d, S', h1, h2⟩ := q.opt
  exact hc L io H1 S v l d S' Q fr.st rv h1 h2
section
variable {X : Cx} {W : WX} {pos p : Pos} {e : Expr} {es : List Expr} {fa : DA} {r : List V → Hp → VK → Prop} {h : Sto → List Dv → Option (Dv × Sto)} {x : Str} {id T : String}
theorem qe_callB (hc : CallR X (.builtin id) r) (hs : CaS X.K r h) (hm : X.mg x = none) (hv : bootBuiltins x = some (.builtin id)) (ha : QXs X W (e :: es) fa) (hg : Gl X x := by rfl) (hn : x ≠ "__name__" := by decide) (hdb : (x == ("__debug__" : Str)) = false := by decide)
    (he : starEach (e :: es) X.env = (false, eval e X.env) :: starEach es X.env := by rfl) (hpl : (backTo pos (starEach es X.env)).any (·.1) = false := by rfl) : QE X W (.Call (.Name x p) (e :: es) [] pos) (eCB h fa) :=
  pe_imp (pe_callB hc hg hm hv ha hn hdb he hpl) fun _ _ _ q => rd_cb hs q
theorem qe_callTy (hc : CallR X (.type T) r) (hs : CaS X.K r h) (hm : X.mg x = none) (hv : bootBuiltins x = some (.type T)) (ha : QXs X W (e :: es) fa) (hg : Gl X x := by rfl) (hn : x ≠ "__name__" := by decide) (hdb : (x == ("__debug__" : Str)) = false := by decide)
    (he : starEach (e :: es) X.env = (false, eval e X.env) :: starEach es X.env := by rfl) (hpl : (backTo pos (starEach es X.env)).any (·.1) = false := by rfl) : QE X W (.Call (.Name x p) (e :: es) [] pos) (eCB h fa) :=
  pe_imp (pe_callTy hc hg hm hv ha hn hdb he hpl) fun _ _ _ q => rd_cb hs q
end
def lenD (S : Sto) : List Dv → Option (Dv × Sto)
  | [.str x] => if x.length ≤ sizeLine then some (.int x.length, S) else none
  | [d] => (asQ S d).map fun l => (.int l.length, S)
  | _ => none
theorem cas_len {K : PySem.W.Frag} : CaS K (fun xs H Q => ∃ x n, xs = [x] ∧ LenV K x H n ∧ Q (.int n) H) lenD := by
  intro L io H S xs l d S' Q sr rv e q
  cases rv with
  | nil => cases e
  | cons r t =>
    cases t with
    | cons r2 t2 => rename_i dd _ _ _ _; cases dd <;> cases e
    | nil =>
      rename_i v dd
      have seq : (asQ S dd).map (fun l => ((.int l.length : Dv), S)) = some (d, S') → ∃ x n, [v] = [x] ∧ LenV K x H n ∧ Q (.int n) H := by
        intro e
        obtain ⟨l, h1, h2⟩ := map_ok e
        cases h2
        obtain ⟨a, xs, rfl, hs, t⟩ := asQ_x sr r h1
        have fin := q (.int l.length) H L io (Stp.refl ..) sr (.int _)
        refine ⟨_, l.length, rfl, ?_, fin⟩
        rcases hs with hs | hs
        · exact .inl ⟨xs, hs, t.len.symm⟩
        · exact .inr ⟨xs, hs, t.len.symm⟩
      cases dd with
      | str x =>
        simp only [lenD] at e
        split at e
        · rename_i h
          cases e; cases r.vr rfl
          exact ⟨_, x.length, rfl, ⟨h, rfl⟩, q _ H L io (Stp.refl ..) sr (.int _)⟩
        · cases e
      | _ => exact seq e
/-- abs, int -/
def absD (S : Sto) : List Dv → Option (Dv × Sto)
  | [.int i] => some (.int (if i < 0 then -i else i), S)
  | _ => none
theorem cas_abs {K : PySem.W.Frag} : CaS K (fun xs H Q => ∃ i, xs = [.int i] ∧ Q (.int (if i < 0 then -i else i)) H) absD := by
  intro L io H S xs l d S' Q sr rv e q
  cases rv with
  | nil => cases e
  | cons r t =>
    cases t with
    | cons r2 t2 => rename_i dd _ _ _ _; cases dd <;> cases e
    | nil =>
      rename_i v dd
      cases dd with
      | int i => cases r.vr rfl; cases e; exact ⟨i, rfl, q _ H L io (Stp.refl ..) sr (.int _)⟩
      | _ => cases e
def intD (S : Sto) : List Dv → Option (Dv × Sto)
  | [.int i] => some (.int i, S)
  | [.bl b] => some (.int (if b then 1 else 0), S)
  | _ => none
theorem cas_int {K : PySem.W.Frag} : CaS K (fun xs H Q => (∃ i, xs = [.int i] ∧ Q (.int i) H) ∨ ∃ k, xs = [.bl k] ∧ Q (.int (if k then 1 else 0)) H) intD := by
  intro L io H S xs l d S' Q sr rv e q
  cases rv with
  | nil => cases e
  | cons r t =>
    cases t with
    | cons r2 t2 => rename_i dd _ _ _ _; cases dd <;> cases e
    | nil =>
      rename_i v dd
      cases dd with
      | int i => cases r.vr rfl; cases e; exact .inl ⟨i, rfl, q _ H L io (Stp.refl ..) sr (.int _)⟩
      | bl b => cases r.vr rfl; cases e; exact .inr ⟨b, rfl, q _ H L io (Stp.refl ..) sr (.int _)⟩
      | _ => cases e
/-- list(x), tuple(x) -/
def listD (S : Sto) : List Dv → Option (Dv × Sto)
  | [d] => (asQ S d).map fun l => (.lst l, S)
  | _ => none
theorem cas_list {K : PySem.W.Frag} : CaS K (fun xs H Q => ∃ p ys, xs = [.ref p] ∧ (SqL K H p ys ∨ SqT K H p ys) ∧ ∀ l, H l = none → Q (.ref l) (upd H l (.lst ys))) listD := by
  intro L io H S xs l d S' Q sr rv e q
  cases rv with
  | nil => cases e
  | cons r t =>
    cases t with
    | cons r2 t2 => cases e
    | nil =>
      obtain ⟨l, h1, h2⟩ := map_ok e
      cases h2
      obtain ⟨a, xs, rfl, hs, t⟩ := asQ_x sr r h1
      exact ⟨a, xs, rfl, hs, fun p hp => q _ _ L io (Stp.alloc hp) (sr.alloc hp) (VR.newL sr hp t)⟩
def tupleD (S : Sto) : List Dv → Option (Dv × Sto)
  | [d] => (asQ S d).map fun l => (.tup l, S)
  | _ => none
end DL
namespace DL
open PySem L2
def tyD (S : Sto) : Dv → Option String
  | .non => some "NoneType"
  | .bl _ => some "bool"
  | .int _ => some "int"
  | .str _ => some "str"
  | .tup _ => some "tuple"
  | .lst _ => some "list"
  | .rol _ => some "list"
  | .dic _ => some "dict"
  | .hdl k => match S[k]? with
    | some (.lst _) => some "list"
    | some (.dct _) => some "dict"
    | _ => none
  | _ => none
def tysOf : List Dv → Option (List String)
  | [] => some []
  | .ty c :: r => (tysOf r).map fun l => c :: l
  | _ => none
def kitS (t : String) : List String → Option Bool
  | [] => some false
  | c :: r => match kitB t c with
    | some true => some true
    | some false => kitS t r
    | none => none
def kitD (t : String) (cs : List Dv) : Option Bool := (tysOf cs).bind fun l => kitS t l
def isiD (S : Sto) : List Dv → Option (Dv × Sto)
  | [d, .ty c] => (tyD S d).bind fun t => (kitB t c).map fun b => (.bl b, S)
  | [d, .tup cs] => (tyD S d).bind fun t => (kitD t cs).map fun b => (.bl b, S)
  | _ => none
section
variable {K : PySem.W.Frag} {L : Addr → Prop} {io : List Addr} {H : Hp} {S : Sto}
theorem sqT_K {a : Addr} {xs : List V} (h : ∀ H', SqT K H' a xs) : ∃ o, K.lookup a = some o ∧ o.cls = .type "tuple" := by
  rcases h (fun _ => none) with (h | ⟨o, h⟩) | ⟨o, its, n, h1, h2, _⟩
  · cases h
  · cases h
  · exact ⟨o, h1, h2⟩
theorem sqL_K {a : Addr} {xs : List V} (h : ∀ H', SqL K H' a xs) : ∃ o, K.lookup a = some o ∧ o.cls = .type "list" := by
  rcases h (fun _ => none) with (h | ⟨o, h⟩) | ⟨o, its, n, h1, h2, _⟩
  · cases h
  · cases h
  · exact ⟨o, h1, h2⟩
theorem tyD_ok0 (s : SR K L io H S) {v : V} {d : Dv} {t : String} (r : VR K L io H v d) (e : tyD S d = some t) : TyX K H v (.type t) := by
  cases r with
  | non => cases e; exact .base .non
  | bl b => cases e; exact .base (.bl b)
  | int b => cases e; exact .base (.int b)
  | str b => cases e; exact .base (.str b)
  | tup n h _ => cases e; exact .base (.tup h)
  | tupK h _ => cases e; obtain ⟨o, h1, h2⟩ := sqT_K h.1; exact .kTuple h1 h2
  | lst n h _ => cases e; exact .base (.lst h)
  | rol n h _ =>
    cases e
    rcases h with h | ⟨o, h⟩
    · exact .base (.lst h)
    · exact .base (.frz h)
  | rolK h _ => cases e; obtain ⟨o, h1, h2⟩ := sqL_K h; exact .kList h1 h2
  | dic n h _ =>
    cases e
    rcases h with h | ⟨o, h⟩
    · exact .base (.dK h)
    · exact .fDict h
  | hdl hk =>
    rename_i a k
    cases q : S[k]? with
    | none => simp [tyD, q] at e
    | some o =>
      cases o with
      | lst l => simp [tyD, q] at e; subst e; obtain ⟨xs, h, _⟩ := s.obj k _ _ hk q; exact .base (.lst h)
      | dct l => simp [tyD, q] at e; subst e; obtain ⟨xs, h, _⟩ := s.obj k _ _ hk q; exact .base (.dK h)
      | ins c fs => simp [tyD, q] at e
  | _ => cases e
theorem tyD_ok (s : SR K L io H S) {v : V} {d : Dv} {t : String} (r : VX K L io H v d) (e : tyD S d = some t) : TyX K H v (.type t) := by
  rcases r with r | ⟨p, o, rfl, rfl, np, ob⟩
  · exact tyD_ok0 s r e
  · cases o with
    | lst l => cases e; obtain ⟨xs, h, _⟩ := ob; exact .base (.lst h)
    | dct l => cases e; obtain ⟨xs, h, _⟩ := ob; exact .base (.dK h)
    | ins c fs => cases e
theorem tysOf_ok : ∀ {cs : List Dv} {vs : List V} {l : List String}, VRs K L io H vs cs → tysOf cs = some l → Paired ClsV vs (l.map Value.type)
  | _, _, _, .nil, e => by cases e; exact .nil
  | _, _, l, .cons r rs, e => by
    cases r with
    | ty c =>
      simp only [tysOf] at e
      obtain ⟨l', h1, rfl⟩ := map_ok e
      exact .cons (.ty c) (tysOf_ok rs h1)
    | _ => cases e
theorem kitS_ok {t : String} : ∀ {l : List String} {b : Bool}, kitS t l = some b → PySem.W.kitAny K (.type t) (l.map Value.type) = some b
  | [], _, e => e
  | c :: l, b, e => by
    simp only [kitS] at e
    cases q : kitB t c with
    | none => rw [q] at e; cases e
    | some z =>
      rw [q] at e
      have hz := kit_ty (K := K) q
      simp only [List.map_cons, PySem.W.kitAny, hz]
      cases z with
      | true => exact e
      | false => exact kitS_ok e
end
def rIsiA (K : PySem.W.Frag) : List V → Hp → VK → Prop := fun xs H Q => rIsi K xs H Q ∨ rIsiT K xs H Q ∨ rIsiK K xs H Q
theorem CallR.or {X : Cx} {f : Value} {r r' : List V → Hp → VK → Prop} (h : CallR X f r) (h' : CallR X f r') : CallR X f (fun x H Q => r x H Q ∨ r' x H Q) := by
  intro pins s g H xs us Q I rv q
  rcases q with q | q
  · exact h pins s g H xs us Q I rv q
  · exact h' pins s g H xs us Q I rv q
theorem cas_isi {K : PySem.W.Frag} : CaS K (rIsiA K) isiD := by
  intro L io H S xs l d S' Q sr rv e q
  cases rv with
  | nil => cases e
  | cons r t =>
    cases t with
    | nil => cases e
    | cons r2 t2 =>
      cases t2 with
      | cons r3 t3 => rename_i d2 _ _ _ _; cases d2 <;> cases e
      | nil =>
        rename_i v dd w cc
        have r2x := r2
        clear r2
        have hcv : isV cc = false := by
          cases cc <;> first | rfl | (simp [isiD] at e)
        cases r2x.vr hcv with
        | ty c =>
          simp only [isiD] at e
          cases h : tyD S dd with
          | none => rw [h] at e; cases e
          | some ty =>
            rw [h] at e
            obtain ⟨b, h1, h2⟩ := map_ok e
            cases h2
            exact .inl ⟨v, .ty c, .type ty, .type c, b, rfl, .ty c, tyD_ok sr r h, kit_ty h1, q _ H L io (Stp.refl ..) sr (.bl _)⟩
        | tup n ht ts =>
          simp only [isiD] at e
          cases h : tyD S dd with
          | none => rw [h] at e; cases e
          | some ty =>
            rw [h] at e
            obtain ⟨b, h1, h2⟩ := map_ok e
            cases h2
            unfold kitD at h1
            rename_i ds
            cases h3 : tysOf ds with
            | none => rw [h3] at h1; cases h1
            | some l =>
              rw [h3] at h1
              exact .inr (.inl ⟨v, _, _, .type ty, _, b, rfl, ht, tysOf_ok ts h3, tyD_ok sr r h, kitS_ok h1, q _ H L io (Stp.refl ..) sr (.bl _)⟩)
        | tupK ht ts =>
          simp only [isiD] at e
          cases h : tyD S dd with
          | none => rw [h] at e; cases e
          | some ty =>
            rw [h] at e
            obtain ⟨b, h1, h2⟩ := map_ok e
            cases h2
            unfold kitD at h1
            rename_i a xs ds
            cases h3 : tysOf ds with
            | none => rw [h3] at h1; cases h1
            | some l =>
              rw [h3] at h1
              rcases ht.1 (fun _ => none) with (ht | ⟨o, ht⟩) | ⟨⟨oc, od, dt, sl⟩, its, n, e1, e2, e3, _, rv⟩
              · cases ht
              · cases ht
              · simp only at e2 e3
                subst e2 e3
                have ei := ClsV.all (tysOf_ok ts h3) rv
                exact .inr (.inr ⟨v, a, od, its.toList, n, sl, .type ty, b, rfl, by simpa using e1, tyD_ok sr r h, by rw [ei]; exact kitS_ok h1, q _ H L io (Stp.refl ..) sr (.bl _)⟩)
        | _ => cases e
section
variable {K : PySem.W.Frag} {L : Addr → Prop} {io : List Addr} {H : Hp} {S : Sto}
theorem VRs.atI {vs : List V} {l : List Dv} {i : Int} {d : Dv} (r : VRs K L io H vs l) (h : L2.atI l i = some d) : ∃ v, L2.atI vs i = some v ∧ VR K L io H v d := by
  unfold L2.atI at h ⊢
  rw [r.len]
  cases q : ixN l.length i with
  | none => rw [q] at h; cases h
  | some j =>
    rw [q] at h
    obtain ⟨v, h1, h2⟩ := r.get (i := j) h
    exact ⟨v, h1, h2⟩
def cutG {α : Type} (xs : List α) (lo hi : Option Int) : List α := (xs.drop (HT.sIx xs.length 0 lo)).take (HT.sIx xs.length xs.length hi - HT.sIx xs.length 0 lo)
theorem VRs.cut {vs : List V} {l : List Dv} {lo hi : Option Int} (r : VRs K L io H vs l) : VRs K L io H (cutV vs lo hi) (cutG l lo hi) := by
  unfold cutV cutG
  rw [r.len]
  exact (r.drop _).take _
end
def ixD (S : Sto) (d i : Dv) : Option (Dv × Sto) := match i with
  | .int i => (match d with
    | .str z => if z.length ≤ sizeLine then (atI z.cps.toList i).map fun c => (.str ⟨#[c]⟩, S) else none
    | _ => (asQ S d).bind fun l => (atI l i).map fun x => (x, S))
  | _ => none
theorem ops_ix {K : PySem.W.Frag} : OpS K (rIx K) ixD := by
  intro L io H S x y a b d S' Q sr ra rb e q
  cases b with
  | int i =>
    cases rb.vr rfl
    have seq : ((asQ S a).bind fun l => (atI l i).map fun x => (x, S)) = some (d, S') → rIx K x (.int i) H Q := by
      intro e
      cases h : asT a with
      | some l =>
        have h' : asQ S a = some l := by unfold asQ; rw [h]
        rw [h'] at e
        obtain ⟨z, h1, h2⟩ := map_ok e
        cases h2
        obtain ⟨p, xs, rfl, hs, t⟩ := asT_x ra h
        obtain ⟨v, h3, h4⟩ := t.atI h1
        exact .inr (.inl ⟨p, xs, i, v, rfl, rfl, hs, h3, q _ H L io (Stp.refl ..) sr h4⟩)
      | none =>
        have h' : asQ S a = asL S a := by unfold asQ; rw [h]
        rw [h'] at e
        cases h5 : asL S a with
        | none => rw [h5] at e; cases e
        | some l =>
          rw [h5] at e
          obtain ⟨z, h1, h2⟩ := map_ok e
          cases h2
          obtain ⟨p, xs, rfl, hs, t⟩ := asL_x sr ra h5
          obtain ⟨v, h3, h4⟩ := t.atI h1
          exact .inl ⟨p, xs, i, v, rfl, rfl, hs, h3, q _ H L io (Stp.refl ..) sr h4⟩
    cases a with
    | str z =>
      simp only [ixD] at e
      split at e
      · rename_i hz
        obtain ⟨c, h1, h2⟩ := map_ok e
        cases h2; cases ra.vr rfl
        exact .inr (.inr ⟨z, i, c, rfl, rfl, hz, h1, q _ H L io (Stp.refl ..) sr (.str _)⟩)
      · cases e
    | _ => exact seq e
  | _ => cases e
theorem qe_ix {X : Cx} {W : WX} {pos : Pos} {a b : Expr} {f1 f2 : DE} (ha : QX X W a f1) (hb : QX X W b f2) (hs : PlainIx b := by exact fun _ _ => rfl) : QE X W (.Subscript a b pos) (eBin ixD f1 f2) := pe_imp (pe_ix ix_seq ha hb hs) fun _ _ _ q => rd_bin ops_ix q
/-- a[lo:hi] -/
abbrev DO := Env → Sto → Res (Option Int)
def rdo (K : PySem.W.Frag) (W : WX) (f : DO) : TO := Rdg K W (fun _ _ _ (v : Option Int) d => v = d) f
abbrev QO (X : Cx) (W : WX) (e : Option Expr) (f : DO) : Prop := PO X e (rdo X.K W f)
theorem po_imp {X : Cx} {e : Option Expr} {t t' : TO} (h : PO X e t) (i : ∀ g H Q, t' g H Q → t g H Q) : PO X e t' := ⟨fun pins s g H Q I q => h.run pins s g H Q I (i g H Q q)⟩
def oNone : DO := fun _ S => .ok none S
def oInt : Dv → Sto → Res (Option Int)
  | .int i, S => .ok (some i) S
  | _, _ => .no
def oSome (f : DE) : DO := fun e S => bnd (f e S) oInt
def cutD (S : Sto) (d : Dv) (lo hi : Option Int) : Option (Dv × Sto) := match d with
  | .str z => if z.length ≤ sizeLine then some (.str (cutS z lo hi), S) else none
  | .tup l => some (.tup (cutG l lo hi), S)
  | _ => (asL S d).map fun l => (.lst (cutG l lo hi), S)
def eCut (f : DE) (lo hi : DO) : DE := fun e S => bnd (f e S) fun d S1 => bnd (lo e S1) fun l S2 => bnd (hi e S2) fun h S3 => ofO (cutD S3 d l h)
section
variable {X : Cx} {W : WX} {pos p2 : Pos} {a : Expr} {lo hi : Option Expr} {f : DE} {fl fh : DO}
theorem qo_none : QO X W none oNone := po_imp po_none fun g H Q q => by
  obtain ⟨L0, io0, H0, L, io, e, S, fr, q⟩ := q
  exact q.ok1 fr.st rfl
theorem qo_some (h : QE X W a f) : QO X W (some a) (oSome f) := po_imp (po_some h) fun g H Q q => by
  refine Rdg.bind (R := VR X.K) (k := fun _ => oInt) q fun L0 io0 H0 L io H1 e S a v fr ra q => ?_
  cases ra with
  | int b => exact ⟨_, rfl, q.ok1 fr.st rfl⟩
  | _ => exact q.elim
theorem cutG_whole {α : Type} {l : List α} {lo hi : Option Int} (h : HT.sIx l.length 0 lo = 0 ∧ HT.sIx l.length l.length hi = l.length) : cutG l lo hi = l := by
  unfold cutG
  rw [h.1, h.2]
  simp
theorem qe_cut (he : QX X W a f) (hl : QO X W lo fl) (hh : QO X W hi fh) : QE X W (.Subscript a (.Slice lo hi none p2) pos) (eCut f fl fh) := pe_imp (pe_slice (sl_list.or (sl_tupA.or sl_str)) he hl hh) fun g H Q q => by
  refine Rdg.bind (R := VX X.K) (k := fun e d S1 => bnd (fl e S1) fun l S2 => bnd (fh e S2) fun h S3 => ofO (cutD S3 d l h)) q fun L0 io0 H0 L io H1 e S d v fr rv q => ?_
  refine Fin.bind (R := fun _ _ _ (v : Option Int) d => v = d) (k := fun l S2 => bnd (fh e S2) fun h S3 => ofO (cutD S3 d l h)) fr q fun L2 io2 H2 S2 l w s2 fr2 rw2 q => ?_
  subst rw2
  refine Fin.bind (R := fun _ _ _ (v : Option Int) d => v = d) (k := fun h S3 => ofO (cutD S3 d w h)) fr2 q fun L3 io3 H3 S3 h w2 s3 fr3 rw3 q => ?_
  subst rw3
  have r := (rv.step s2 fr.st.sub).step s3 fr2.st.sub
  obtain ⟨d', S', h1, h2⟩ := q.opt
  have lst : (asL S3 d).map (fun l => (Dv.lst (cutG l w w2), S3)) = some (d', S') → rSlL X.K v w w2 H3 Q := by
    intro e
    obtain ⟨l, h3, h4⟩ := map_ok e
    cases h4
    obtain ⟨p, xs, rfl, hs, t⟩ := asL_x fr3.st r h3
    exact ⟨p, xs, rfl, hs, fun p hp => h2 _ _ L3 io3 (Stp.alloc hp) (fr3.st.alloc hp) (VR.newL fr3.st hp t.cut)⟩
  cases d with
  | str z =>
    simp only [cutD] at h1
    split at h1
    · rename_i hz
      cases h1; cases r.vr rfl
      exact .inr (.inr ⟨z, rfl, hz, h2 _ H3 L3 io3 (Stp.refl ..) fr3.st (.str _)⟩)
    · cases h1
  | tup l =>
    cases h1
    obtain ⟨p, xs, rfl, hs, t⟩ := (r.vr rfl).tupS
    refine .inr (.inl ⟨p, xs, rfl, hs, fun hw => ?_, fun hw p hp => ?_⟩)
    · rw [t.len] at hw
      rw [cutG_whole hw] at h2
      exact h2 _ H3 L3 io3 (Stp.refl ..) fr3.st (r.vr rfl)
    · exact h2 _ _ L3 io3 (Stp.alloc hp) (fr3.st.alloc hp) (VR.newT fr3.st hp t.cut)
  | _ => exact .inl (lst h1)
end
structure RoomG (k : Nat) (A : Around) : Prop where
  r : Room k A
  g : A.guards = some []
theorem RoomG.mono {j k : Nat} {A : Around} (h : RoomG k A) (hj : j ≤ k) : RoomG j A := ⟨h.r.mono hj, h.g⟩
theorem RoomG.deeper {k : Nat} {A : Around} (h : RoomG (k + 1) A) (v : PySem.Env) : RoomG k (A.deeper v) := ⟨h.r.deeper v, h.g⟩
theorem RoomG.in1 {k : Nat} {A : Around} (h : RoomG (k + 1) A) : RoomG k A.in1 := ⟨h.r.in1, h.g⟩
theorem RoomG.low {k : Nat} {A : Around} (h : RoomG (k + 1) A) : RoomG k A := h.mono (Nat.le_succ k)
/-- what a def promises: as FnOk, at calls without a guard; what it raises lies as L2.CX says -/
structure FnG (P : Program) (w : World) (K : PySem.W.Frag) (mg : Str → Option Value) (base : Heap) (k : Nat) (f : Addr) (fd : FuncData) (ps : List Str) (sp : Sp) : Prop where
  len : ∀ vs H Q E, sp vs H Q E → vs.length = ps.length
  run : ∀ (A : Around) (up : List PySem.Env) (s : Shared) (H : Hp) (args : Args) (us : List Value) (vs : List V) (Q : VK) (E : XK), RoomG k A → Env0 P w K mg base A up s H → BindsTo s fd args (ps.zip us) → Vals vs us → sp vs H Q E →
    codeAny (model P w) A (.call (.ref f) args) (CR (L2.CX P w) up P w H s Q E) s
theorem FnG.mono {P : Program} {w : World} {K : PySem.W.Frag} {mg : Str → Option Value} {base : Heap} {j k : Nat} {f : Addr} {fd : FuncData} {ps : List Str} {sp : Sp} (F : FnG P w K mg base j f fd ps sp) (h : j ≤ k) : FnG P w K mg base k f fd ps sp :=
  ⟨F.len, fun A up s H args us vs Q E hr => F.run A up s H args us vs Q E (hr.mono h)⟩
/-- a promise that nobody can ask -/
theorem FnG.never {P : Program} {w : World} {K : PySem.W.Frag} {mg : Str → Option Value} {base : Heap} {k : Nat} {f : Addr} {fd : FuncData} {ps : List Str} {sp : Sp} (h : ∀ vs H Q E, ¬ sp vs H Q E) : FnG P w K mg base k f fd ps sp :=
  ⟨fun vs H Q E z => (h vs H Q E z).elim, fun _ _ _ H _ _ vs Q E _ _ _ _ z => (h vs H Q E z).elim⟩
theorem takesW0 {X : Cx} : Takes X (fun _ _ _ _ => False) := fun _ _ ⟨_, _, _, _, _, _, _, _, _, _, _, _, _, _, _, _, z⟩ => z.elim
section
variable {X : Cx} {W : WX} {k : Nat} {f : Addr} {fd : FuncData} {ps : List Str} {sp : Sp} {dvs : List V} {ds : List Value}
/-- the callee of any rule runs -/
theorem run_g {pins : List (Addr × Obj)} {g : St} {H : Hp} {s : Shared} {Q : VK} {us : List Value} {vs : List V} (F : FnG X.prog X.w X.K X.mg X.base k f fd ps sp) (hr : RoomG k X.A) (hb : Binds X.K fd ps ds) (hd : Vals dvs ds) (tk : Takes X W)
    (I : Inv X pins g H s) (r : Vals vs us) (h : sp (vs ++ dvs) H Q (fun c d H' => W c d g H')) : wpAny (model X.prog X.w) X.A (call (.ref f) us) (EP X pins g Q) X.xe s := by
  have r2 := r.append hd
  have hl : (us ++ ds).length = ps.length := by
    rw [← r2.length]
    exact F.len _ _ _ _ h
  refine wpAny_call (codeAny_mono (F.run X.A X.stack s H ⟨us, []⟩ _ _ Q _ hr I.env0 (hb s us I.kIn hl) r2 h) fun rr s' z => ?_)
  match rr, z with
  | .error e, z => exact tk e s' (XE.of_call I (fun _ _ _ q => q) z)
  | .ok (.ret u), z => exact I.after z
  | .ok .next, z => exact z.elim
  | .ok .brk, z => exact z.elim
  | .ok .cont, z => exact z.elim
end
def Lx (L : Addr → Prop) (io : List Addr) : Addr → Prop := fun a => L a ∨ a ∈ io
abbrev DF := Sto → List Dv → Res Dv
/-- a def's promise: called with such data in such a store it gives g's answer -/
def spD (K : PySem.W.Frag) (g : DF) : Sp := fun vs H Q E => ∃ (L : Addr → Prop) (io : List Addr) (S : Sto) (l : List Dv), SR K L io H S ∧ VRs K L io H vs l ∧ match g S l with
  | .ok d S' => ∀ (v : V) (H' : Hp) (io' : List Addr), Stp L io H (Lx L io') io' H' → SR K (Lx L io') io' H' S' → VR K (Lx L io') io' H' v d → Q v H'
  | .ex c fs S' => ∀ (x : Option Addr) (H' : Hp) (io' : List Addr), Stp L io H (Lx L io') io' H' → SR K (Lx L io') io' H' S' → ExR K (Lx L io') io' H' x fs → E (.ref (He.ga K c)) x H'
  | .no => False
/-- the answer of none -/
def gNo : DF := fun _ _ => .no
theorem spD_no {K : PySem.W.Frag} : ∀ vs H Q E, ¬ spD K gNo vs H Q E := fun _ _ _ _ ⟨_, _, _, _, _, _, z⟩ => z
/-- a def's promise from what is wished behind it -/
theorem spD_fin {K : PySem.W.Frag} {W : WX} {g : DF} {st : St} {L : Addr → Prop} {io : List Addr} {H : Hp} {S : Sto} {vs : List V} {l : List Dv} {Q : VK} (sr : SR K L io H S) (r : VRs K L io H vs l) (q : Fin K W (VR K) st L io H Q (g S l)) : spD K g vs H Q (fun c d H' => W c d st H') := by
  refine ⟨L, io, S, l, sr, r, ?_⟩
  cases h : g S l with
  | ok d S' => rw [h] at q; exact fun v H' io' s sr r => q v H' _ io' s sr r
  | ex c fs S' => rw [h] at q; exact fun v H' io' s sr r => q v H' _ io' s sr r
  | no => rw [h] at q; exact q
/-- the def that the module's name x stands for answers as g; dl: the data of the defaults that a call without them takes -/
def FD (P : Program) (w : World) (K : PySem.W.Frag) (mg : Str → Option Value) (base : Heap) (k : Nat) (x : Str) (g : DF) : Prop :=
  ∃ (f : Addr) (fd : FuncData) (ps : List Str), FnG P w K mg base k f fd ps (spD K g) ∧ mg x = some (.ref f) ∧ f = He.ga K x ∧ PySem.W.keepIn K (.ref f) = true ∧ Binds K fd ps []
def eCall (g : DF) (fa : DA) : DE := fun e S => bnd (fa e S) fun l S1 => g S1 l
section
variable {X : Cx} {W : WX} {k i : Nat} {x : Str} {g : DF} {p pos : Pos} {e : Expr} {es : List Expr} {fa : DA}
theorem qe_call (F : FD X.prog X.w X.K X.mg X.base k x g) (hr : RoomG (k + 1) X.A) (tk : Takes X W) (ha : QA X W (e :: es) fa) (hg : Gl X x := by rfl) (hdb : (x == ("__debug__" : Str)) = false := by decide) (he : starEach (e :: es) X.env = (false, eval e X.env) :: starEach es X.env := by rfl) (hpl : (backTo pos (starEach es X.env)).any (·.1) = false := by rfl) :
    QE X W (.Call (.Name x p) (e :: es) [] pos) (eCall g fa) := by
  obtain ⟨f, fd, ps, F, hm, _, hk, hb⟩ := F
  refine ⟨fun pins s st H Q I q => wpAny_Call_Name_kw (ld_glob I hg hm ?_ hdb)⟩
  refine PySem.W.callWith_K (h₀ := X.base) I.ok.mod.kin hk (thn (ha.run pos pins s st H (fun vs H1 => spD X.K g vs H1 Q fun c d H' => W c d st H') I ?_) fun us s1 ⟨vs, H1, I1, r, q⟩ => ⟨I1.kIn, run_g F hr.low hb .nil tk I1 r (by rw [List.append_nil]; exact q)⟩) he hpl
  exact Rdg.bind (R := VRs X.K) (k := fun _ l S1 => g S1 l) q fun L0 io0 H0 L io H1 e S l v fr rv q => spD_fin fr.st rv q
/-- fits(..), fits a name of this def that stands for a def of the module; t: what the defs answer -/
def eCallL (t : Str → Option DF) (i : Nat) (fa : DA) : DE := fun e S => match e[i]? with
  | some (.va (.glo x)) => match t x with
    | some g => bnd (fa e S) fun l S1 => g S1 l
    | none => .no
  | _ => .no
end
end DL
namespace DL
open PySem L2
structure Stw (L : Addr → Prop) (io : List Addr) (H : Hp) (L' : Addr → Prop) (io' : List Addr) (H' : Hp) : Prop where
  pre : ∃ more, io' = io ++ more
  new : ∀ a, L' a → L a ∨ H a = none
  keep : ∀ a o, H a = some o → ¬ L a → H' a = some o
section
variable {K : PySem.W.Frag} {L L1 L2 L' : Addr → Prop} {io io1 io2 io' : List Addr} {H H1 H2 H' : Hp} {S : Sto}
theorem Stw.refl (L : Addr → Prop) (io : List Addr) (H : Hp) : Stw L io H L io H := ⟨⟨[], by simp⟩, fun _ h => .inl h, fun _ _ h _ => h⟩
theorem Stp.stw (s : Stp L io H L' io' H') (sub : ∀ x ∈ io, L x) : Stw L io H L' io' H' := ⟨s.pre, s.new, fun a o h n => s.keep a o h fun z => n (sub a z)⟩
theorem Stw.trans (a : Stw L io H L1 io1 H1) (b : Stw L1 io1 H1 L2 io2 H2) : Stw L io H L2 io2 H2 where
  pre := by
    obtain ⟨m, rfl⟩ := a.pre
    obtain ⟨m1, rfl⟩ := b.pre
    exact ⟨m ++ m1, by simp⟩
  new := fun x h => by
    rcases b.new x h with h1 | h1
    · exact a.new x h1
    · cases e : H x with
      | none => exact .inr rfl
      | some o =>
        by_cases hl : L x
        · exact .inl hl
        · rw [a.keep x o e hl] at h1; cases h1
  keep := fun x o h n => b.keep x o (a.keep x o h n) fun z => by
    rcases a.new x z with q | q
    · exact n q
    · rw [q] at h; cases h
theorem Stw.on (s : Stw L io H L' io' H') : (∀ (k : Nat) (a : Addr), io[k]? = some a → io'[k]? = some a) ∧ (∀ a o, H a = some o → ¬ L a → H' a = some o ∧ ¬ L' a) := by
  refine ⟨fun k a h => ?_, fun a o h nl => ⟨s.keep a o h nl, fun z => ?_⟩⟩
  · obtain ⟨m, rfl⟩ := s.pre
    exact io_keep h
  · rcases s.new a z with q | q
    · exact nl q
    · rw [q] at h; cases h
theorem VR.stw {v : V} {d : Dv} (h : VR K L io H v d) (s : Stw L io H L' io' H') : VR K L' io' H' v d := VR.on s.on.1 s.on.2 h
theorem VRs.stw {v : List V} {d : List Dv} (h : VRs K L io H v d) (s : Stw L io H L' io' H') : VRs K L' io' H' v d := VRs.on s.on.1 s.on.2 h
/-- a volatile thing that is no handle's is changed -/
theorem SR.mut {p : Addr} {o : HO} (s : SR K L io H S) (hp : L p) (hn : p ∉ io) : SR K L io (upd H p o) S where
  len := s.len
  nd := s.nd
  sub := s.sub
  dom := fun a ha => by
    by_cases e : a = p
    · rw [e, upd_same]; exact fun z => nomatch z
    · rw [upd_ne e]; exact s.dom a ha
  obj := fun k a ob h1 h2 => (s.obj k a ob h1 h2).mono (fun u e => by rw [upd_ne (fun z => hn (by rw [← z]; exact List.mem_of_getElem? h1))]; exact e) fun v d r => r.mut hp
theorem Stw.mut {p : Addr} {o : HO} (hp : L p) : Stw L io H L io (upd H p o) := ⟨⟨[], by simp⟩, fun _ h => .inl h, fun a u e n => by rw [upd_ne (fun z => n (by rw [z]; exact hp))]; exact e⟩
/-- a new thing, volatile from now on -/
def Ly (L : Addr → Prop) (p : Addr) : Addr → Prop := fun a => L a ∨ a = p
def Lz (L : Addr → Prop) (p : Addr) : Addr → Prop := fun a => L a ∧ a ≠ p
theorem Stp.newV {p : Addr} {o : HO} (hp : H p = none) : Stp L io H (Ly L p) io (upd H p o) :=
  ⟨⟨[], by simp⟩, fun _ h => .inl h, fun a h => h.elim .inl fun e => .inr (by rw [e]; exact hp), fun a u e _ => by rw [upd_ne (ne_of_none e hp)]; exact e, fun _ h => .inl h⟩
theorem SR.newV {p : Addr} {o : HO} (s : SR K L io H S) (hp : H p = none) : SR K (Ly L p) io (upd H p o) S where
  len := s.len
  nd := s.nd
  sub := fun a h => .inl (s.sub a h)
  dom := fun a ha => by
    by_cases e : a = p
    · rw [e, upd_same]; exact fun z => nomatch z
    · rw [upd_ne e]; exact s.dom a (ha.elim id fun z => absurd z e)
  obj := fun k a ob h1 h2 => (s.obj k a ob h1 h2).mono (fun u e => by rw [upd_ne (ne_of_none e hp)]; exact e) fun v d r => r.step (Stp.newV hp) s.sub
/-- fewer volatile things -/
theorem SR.less (s : SR K L io H S) (hl : ∀ a, L' a → L a) (sub : ∀ a ∈ io, L' a) : SR K L' io H S :=
  ⟨s.len, s.nd, sub, fun a h => s.dom a (hl a h), fun k a o h1 h2 => (s.obj k a o h1 h2).mono (fun _ e => e) fun v d r => r.less hl⟩
end
/-- a new list l stands at p (H: the heap ahead of the piece) -/
def NewL (K : PySem.W.Frag) (H : Hp) (L' : Addr → Prop) (io' : List Addr) (H' : Hp) (v : V) (l : List Dv) : Prop := ∃ p xs, v = .ref p ∧ H p = none ∧ L' p ∧ p ∉ io' ∧ H' p = some (.lst xs) ∧ VRs K L' io' H' xs l
abbrev DL := Env → Sto → Res (List Dv)
def FinF (K : PySem.W.Frag) (W : WX) (g : St) (L : Addr → Prop) (io : List Addr) (H : Hp) (Q : V → Hp → Prop) : Res (List Dv) → Prop
  | .ok d S' => ∀ (v : V) (H' : Hp) (L' : Addr → Prop) (io' : List Addr), Stp L io H L' io' H' → SR K L' io' H' S' → NewL K H L' io' H' v d → Q v H'
  | .ex c fs S' => ∀ (x : Option Addr) (H' : Hp) (L' : Addr → Prop) (io' : List Addr), Stp L io H L' io' H' → SR K L' io' H' S' → ExR K L' io' H' x fs → W (.ref (He.ga K c)) x g H'
  | .no => False
def rdF (K : PySem.W.Frag) (W : WX) (f : DL) : TE := fun g H Q => ∃ (L0 : Addr → Prop) (io0 : List Addr) (H0 : Hp) (L : Addr → Prop) (io : List Addr) (e : Env) (S : Sto), FR K L0 io0 H0 L io H g e S ∧ FinF K W g L io H Q (f e S)
abbrev QF (X : Cx) (W : WX) (e : Expr) (f : DL) : Prop := PE X e (rdF X.K W f)
def eFrz (f : DL) : DE := fun e S => bnd (f e S) fun l S' => .ok (.lst l) S'
theorem rd_frz {K : PySem.W.Frag} {W : WX} {f : DL} {g : St} {H : Hp} {Q : VK} (q : rd K W (eFrz f) g H Q) : rdF K W f g H Q := by
  obtain ⟨L0, io0, H0, L, io, e, S, fr, q⟩ := q
  refine ⟨L0, io0, H0, L, io, e, S, fr, ?_⟩
  have q : Fin K W (VR K) g L io H Q (bnd (f e S) fun l S' => .ok (.lst l) S') := q
  cases hf : f e S with
  | no => rw [hf] at q; exact q
  | ex c fs S' => rw [hf] at q; exact q
  | ok l S' =>
    rw [hf] at q
    intro v H' L' io' s sr ⟨p, xs, hv, hp, lp, np, h1, h2⟩
    subst hv
    have hl : ∀ a, Lz L' p a → L' a := fun a z => z.1
    refine q _ H' (Lz L' p) io' ⟨s.pre, s.hn, fun a z => s.new a z.1, s.keep, fun a z => ⟨s.up a z, fun e => fr.st.dom a z (by rw [e]; exact hp)⟩⟩ (sr.less hl fun a ha => ⟨sr.sub a ha, fun e => np (by rw [← e]; exact ha)⟩) (.lst (fun z => z.2 rfl) h1 (h2.less hl))
theorem qe_frz {X : Cx} {W : WX} {a : Expr} {f : DL} (h : QF X W a f) : QE X W a (eFrz f) := pe_imp h fun g H Q q => rd_frz q
section
variable {X : Cx} {W : WX} {pos : Pos} {es : List Expr} {fa : DA}
def fLst (fa : DA) : DL := fun e S => bnd (fa e S) fun l S1 => if l.length ≤ sizeLine then .ok l S1 else .no
theorem FinF.bind {α β : Type} {K : PySem.W.Frag} {R : (Addr → Prop) → List Addr → Hp → β → α → Prop} {f : Env → Sto → Res α} {k : α → Sto → Res (List Dv)} {g : St} {L0 L : Addr → Prop} {io0 io : List Addr} {H0 H : Hp} {e : Env} {S : Sto} {Q : V → Hp → Prop} {P : β → Hp → Prop}
    (fr : FR K L0 io0 H0 L io H g e S) (h : FinF K W g L io H Q (bnd (f e S) k))
    (n : ∀ (L1 : Addr → Prop) (io1 : List Addr) (H1 : Hp) (S1 : Sto) (a : α) (v : β), Stp L io H L1 io1 H1 → FR K L0 io0 H0 L1 io1 H1 g e S1 → R L1 io1 H1 v a → FinF K W g L1 io1 H1 Q (k a S1) → P v H1) : Rdg K W R f g H P := by
  refine ⟨L0, io0, H0, L, io, e, S, fr, ?_⟩
  cases hf : f e S with
  | ok a S1 =>
    rw [hf] at h
    intro v H1 L1 io1 s1 sr1 r1
    have h : FinF K W g L io H Q (k a S1) := h
    refine n L1 io1 H1 S1 a v s1 (fr.step s1 sr1) r1 ?_
    cases hk : k a S1 with
    | ok l S2 =>
      rw [hk] at h
      intro v H' L' io' s2 sr2 ⟨p, xs, e1, e2, e3⟩
      refine h v H' L' io' (s1.trans s2 fr.st.sub) sr2 ⟨p, xs, e1, ?_, e3⟩
      rcases s1.back e2 with z | z
      · exact absurd e2 (sr1.dom p (s1.up p (fr.st.sub p z)))
      · exact z
    | ex c fs S2 =>
      rw [hk] at h
      exact fun v H' L' io' s2 sr r2 => h v H' L' io' (s1.trans s2 fr.st.sub) sr r2
    | no => rw [hk] at h; exact h
  | ex c fs S1 => rw [hf] at h; exact h
  | no => rw [hf] at h; exact h
theorem FinF.new {K : PySem.W.Frag} {g : St} {L : Addr → Prop} {io : List Addr} {H : Hp} {S : Sto} {Q : V → Hp → Prop} {l : List Dv} {xs : List V} (h : FinF K W g L io H Q (.ok l S)) (sr : SR K L io H S) (r : VRs K L io H xs l) : ∀ p, H p = none → Q (.ref p) (upd H p (.lst xs)) := fun p hp =>
  h _ _ (Ly L p) io (Stp.newV hp) (sr.newV hp) ⟨p, xs, rfl, hp, .inr rfl, fun z => sr.dom p (sr.sub p z) hp, upd_same, r.step (Stp.newV hp) sr.sub⟩
theorem qf_lst (h : QA X W es fa) : QF X W (.List es pos) (fLst fa) := pe_imp (pe_lst h) fun g H Q q => by
  obtain ⟨L0, io0, H0, L, io, e, S, fr, q⟩ := q
  refine FinF.bind (R := VRs X.K) (k := fun l S1 => if l.length ≤ sizeLine then .ok l S1 else .no) fr q fun L1 io1 H1 S1 l vs s1 fr1 r1 q => ?_
  split at q
  · rename_i hl
    exact ⟨by rw [r1.len]; exact hl, q.new fr1.st r1⟩
  · exact q.elim
end
end DL
namespace DL
open PySem L2
section
variable {K : PySem.W.Frag} {L0 L : Addr → Prop} {io0 io : List Addr} {H0 H : Hp} {g : St} {e : Env} {S : Sto} {i : Nat}
theorem set_get {α : Type} {l : List α} {i j : Nat} {a b : α} (h : (l.set i a)[j]? = some b) : (j = i ∧ b = a ∧ i < l.length) ∨ (j ≠ i ∧ l[j]? = some b) := by
  rw [List.getElem?_set] at h
  by_cases e : i = j
  · rw [if_pos e] at h
    split at h
    · cases h; exact .inl ⟨e.symm, rfl, by omega⟩
    · cases h
  · rw [if_neg e] at h
    exact .inr ⟨fun z => e z.symm, h⟩
theorem set_ne {α : Type} {l : List α} {i j : Nat} {a : α} (h : j ≠ i) : (l.set i a)[j]? = l[j]? := by
  rw [List.getElem?_set, if_neg (fun z => h z.symm)]
theorem set_at {α : Type} {l : List α} {i : Nat} {a : α} (h : i < l.length) : (l.set i a)[i]? = some a := by
  rw [List.getElem?_set, if_pos rfl, if_pos h]
/-- a slot gets another content, of which the frame's facts hold -/
theorem FR.setS (f : FR K L0 io0 H0 L io H g e S) (i : Nat) {x : Option V} {s : Sl}
    (hva : ∀ d, s = .va d → ∃ v, x = some v ∧ VR K L io H v d)
    (how : ∀ o, s = .own o → ∃ p, x = some (.ref p) ∧ L p ∧ p ∉ io ∧ H0 p = none ∧ ObR K L io H p o)
    (hinj : ∀ p, (∀ d, s ≠ .va d) → s ≠ .no → x = some (.ref p) → ∀ j, j ≠ i → (∀ d, e[j]? ≠ some (.va d)) → e[j]? ≠ some .no → g[j]? ≠ some (some (.ref p))) :
    FR K L0 io0 H0 L io H (g.set i x) (e.set i s) S where
  st := f.st
  len := by rw [List.length_set, List.length_set]; exact f.len
  va := fun j d h => by
    rcases set_get h with ⟨rfl, h1, h2⟩ | ⟨h1, h2⟩
    · obtain ⟨v, rfl, r⟩ := hva d h1.symm
      exact ⟨v, set_at (by rw [f.len]; exact h2), r⟩
    · obtain ⟨v, r1, r2⟩ := f.va j d h2
      exact ⟨v, by rw [set_ne h1]; exact r1, r2⟩
  own := fun j o h => by
    rcases set_get h with ⟨rfl, h1, h2⟩ | ⟨h1, h2⟩
    · obtain ⟨p, rfl, r⟩ := how o h1.symm
      exact ⟨p, set_at (by rw [f.len]; exact h2), r⟩
    · obtain ⟨p, r1, r2⟩ := f.own j o h2
      exact ⟨p, by rw [set_ne h1]; exact r1, r2⟩
  inj := fun j k p hjk v1 v2 n1 n2 h1 h2 => by
    have lg : ∀ {j : Nat} {z : Option V}, (g.set i x)[j]? = some z → j < e.length := fun {j z} h => by
      have := (List.getElem?_eq_some_iff.mp h).1
      rw [List.length_set, f.len] at this
      exact this
    by_cases ej : j = i
    · subst ej
      have ek : k ≠ j := fun z => hjk z.symm
      have hl := lg h1
      rw [set_at hl] at v1 n1
      rw [set_ne ek] at v2 n2 h2
      rw [set_at (by rw [f.len]; exact hl)] at h1
      exact hinj p (fun d z => v1 d (by rw [z])) (fun z => n1 (by rw [z])) (Option.some.inj h1) k ek v2 n2 h2
    · by_cases ek : k = i
      · subst ek
        have hl := lg h2
        rw [set_at hl] at v2 n2
        rw [set_ne ej] at v1 n1 h1
        rw [set_at (by rw [f.len]; exact hl)] at h2
        exact hinj p (fun d z => v2 d (by rw [z])) (fun z => n2 (by rw [z])) (Option.some.inj h2) j ej v1 n1 h1
      · rw [set_ne ej] at v1 n1 h1
        rw [set_ne ek] at v2 n2 h2
        exact f.inj j k p hjk v1 v2 n1 n2 h1 h2
  en := f.en
  sub0 := f.sub0
  dom0 := f.dom0
theorem FR.setV (f : FR K L0 io0 H0 L io H g e S) (i : Nat) {v : V} {d : Dv} (r : VR K L io H v d) : FR K L0 io0 H0 L io H (g.set i (some v)) (e.set i (.va d)) S :=
  f.setS i (fun d' h => by cases h; exact ⟨v, rfl, r⟩) (fun l h => by cases h) (fun p h => absurd rfl (h d))
theorem FR.setN (f : FR K L0 io0 H0 L io H g e S) (i : Nat) (x : Option V) : FR K L0 io0 H0 L io H (g.set i x) (e.set i .no) S :=
  f.setS i (fun d' h => by cases h) (fun l h => by cases h) (fun p _ h => absurd rfl h)
/-- a volatile thing that no slot of its own holds is changed -/
theorem FR.mutD (f : FR K L0 io0 H0 L io H g e S) {p : Addr} {o : HO} (lp : L p) (np : p ∉ io) (h0 : H0 p = none)
    (hne : ∀ (i : Nat) (q : Addr), (∀ d, e[i]? ≠ some (.va d)) → e[i]? ≠ some .no → e[i]? ≠ none → g[i]? = some (some (.ref q)) → q ≠ p) : FR K L0 io0 H0 L io (upd H p o) g e S where
  st := f.st.mut lp np
  len := f.len
  va := fun i d h => by
    obtain ⟨v, h1, h2⟩ := f.va i d h
    exact ⟨v, h1, h2.mut lp⟩
  own := fun i o h => by
    obtain ⟨q, h1, h2, h3, h4, h5⟩ := f.own i o h
    have : q ≠ p := hne i q (by rw [h]; intro d z; cases z) (by rw [h]; intro z; cases z) (by rw [h]; intro z; cases z) h1
    exact ⟨q, h1, h2, h3, h4, ObR.mono (o := o) h5 (fun u h => by rw [upd_ne this]; exact h) fun v d r => r.mut lp⟩
  inj := f.inj
  en := ⟨f.en.pre, f.en.hn, f.en.new, fun a u h n => by rw [upd_ne (ne_of_none h h0)]; exact f.en.keep a u h n, f.en.up⟩
  sub0 := f.sub0
  dom0 := f.dom0
/-- what a slot of its own holds stands in the heap -/
theorem FR.ownAt (f : FR K L0 io0 H0 L io H g e S) {i : Nat} {q : Addr} (h1 : ∀ d, e[i]? ≠ some (.va d)) (h2 : e[i]? ≠ some .no) (h3 : e[i]? ≠ none) (hg : g[i]? = some (some (.ref q))) : ∃ o, H q = some o ∧ L q := by
  cases h : e[i]? with
  | none => exact absurd h h3
  | some s =>
    cases s with
    | no => exact absurd h h2
    | va d => exact absurd h (h1 d)
    | own o =>
      obtain ⟨p, e1, e2, _, _, e3⟩ := f.own i o h
      rw [hg] at e1
      cases e1
      obtain ⟨u, e4⟩ := ObR.has (o := o) e3
      exact ⟨_, e4, e2⟩
theorem FR.fresh0 (f : FR K L0 io0 H0 L io H g e S) {p : Addr} (h : H p = none) : H0 p = none := by
  rcases f.en.back h with z | z
  · exact absurd h (f.st.dom p (f.en.up p (f.sub0 p z)))
  · exact z
def wipeE (e : Env) : List Nat → Env
  | [] => e
  | v :: vs => (wipeE e vs).set v .no
theorem FR.wipe (f : FR K L0 io0 H0 L io H g e S) : ∀ vs : List Nat, FR K L0 io0 H0 L io H (L2.wipe g vs) (wipeE e vs) S
  | [] => f
  | v :: vs => (FR.wipe f vs).setN v none
end
theorem wipe_get (g : St) : ∀ (vs : List Nat) (k : Nat), (L2.wipe g vs)[k]? = if k ∈ vs then (if k < g.length then some none else none) else g[k]?
  | [], k => by simp [L2.wipe]
  | v :: vs, k => by
    unfold L2.wipe
    rw [List.getElem?_set, L2.wipe_length, wipe_get g vs k]
    by_cases e : v = k
    · subst e; simp
    · rw [if_neg e]
      have : (k ∈ v :: vs) ↔ k ∈ vs := by simp [Ne.symm (a := v) (b := k) e]
      simp only [this]
theorem wipe_ext {g g' : St} {vs : List Nat} (hl : g'.length = g.length) (h : ∀ k, k ∉ vs → g'[k]? = g[k]?) : L2.wipe g' vs = L2.wipe g vs := by
  apply List.ext_getElem?
  intro k
  rw [wipe_get, wipe_get, hl]
  by_cases e : k ∈ vs
  · rw [if_pos e, if_pos e]
  · rw [if_neg e, if_neg e, h k e]
abbrev DG := Dv → Env → Option Env
def TGok (K : PySem.W.Frag) (t : TG) (gd : DG) (vs : List Nat) : Prop := ∀ (L0 : Addr → Prop) (io0 : List Addr) (H0 : Hp) (L : Addr → Prop) (io : List Addr) (H : Hp) (g : St) (e : Env) (S : Sto) (v : V) (d : Dv) (e' : Env) (Q : St → Hp → Prop),
  FR K L0 io0 H0 L io H g e S → VR K L io H v d → gd d e = some e' → (∀ g', FR K L0 io0 H0 L io H g' e' S → g'.length = g.length → (∀ k, k ∉ vs → g'[k]? = g[k]?) → Q g' H) → t v g H Q
def tgR (K : PySem.W.Frag) (gd : DG) (vs : List Nat) : TG := fun v g H Q => ∃ (L0 : Addr → Prop) (io0 : List Addr) (H0 : Hp) (L : Addr → Prop) (io : List Addr) (e : Env) (S : Sto) (d : Dv) (e' : Env), FR K L0 io0 H0 L io H g e S ∧ VR K L io H v d ∧ gd d e = some e' ∧
  ∀ g', FR K L0 io0 H0 L io H g' e' S → g'.length = g.length → (∀ k, k ∉ vs → g'[k]? = g[k]?) → Q g' H
theorem tgR_ok {K : PySem.W.Frag} {gd : DG} {vs : List Nat} : TGok K (tgR K gd vs) gd vs := fun L0 io0 H0 L io H g e S v d e' Q fr r h q => ⟨L0, io0, H0, L, io, e, S, d, e', fr, r, h, q⟩
/-- a target, and the slots that it may change -/
def QG (X : Cx) (tg : Expr) (gd : DG) (vs : List Nat) : Prop := ∃ t, PG X tg t ∧ TGok X.K t gd vs
theorem QG.canon {X : Cx} {tg : Expr} {gd : DG} {vs : List Nat} (h : QG X tg gd vs) : PG X tg (tgR X.K gd vs) := by
  obtain ⟨t, p, o⟩ := h
  refine ⟨fun pins s g H v u Q I r q => p.run pins s g H v u Q I r ?_⟩
  obtain ⟨L0, io0, H0, L, io, e, S, d, e', fr, rv, hd, q⟩ := q
  exact o L0 io0 H0 L io H g e S v d e' Q fr rv hd q
def gN (i : Nat) : DG := fun d e => some (e.set i (.va d))
abbrev DGs := List Dv → Env → Option Env
def TGsok (K : PySem.W.Frag) (t : TGs) (gd : DGs) (vs : List Nat) : Prop := ∀ (L0 : Addr → Prop) (io0 : List Addr) (H0 : Hp) (L : Addr → Prop) (io : List Addr) (H : Hp) (g : St) (e : Env) (S : Sto) (v : List V) (d : List Dv) (e' : Env) (Q : St → Hp → Prop),
  FR K L0 io0 H0 L io H g e S → VRs K L io H v d → gd d e = some e' → (∀ g', FR K L0 io0 H0 L io H g' e' S → g'.length = g.length → (∀ k, k ∉ vs → g'[k]? = g[k]?) → Q g' H) → t v g H Q
def QGs (X : Cx) (ts : List Expr) (gd : DGs) (n : Nat) (vs : List Nat) : Prop := (∃ t, PGs X ts t ∧ TGsok X.K t gd vs) ∧ ∀ l e e', gd l e = some e' → l.length = n
def gsNil : DGs := fun l e => match l with
  | [] => some e
  | _ => none
def gsCons (g : DG) (gs : DGs) : DGs := fun l e => match l with
  | d :: r => (g d e).bind fun e' => gs r e'
  | [] => none
def gT (gs : DGs) : DG := fun d e => (asT d).bind fun l => gs l e
section
variable {X : Cx} {pos : Pos} {x : Str} {i : Nat} {tg : Expr} {ts : List Expr} {gd : DG} {gds : DGs} {vs ws : List Nat} {n : Nat}
theorem qg_name (hN : X.N.Nodup) (i : Nat) (hi : X.N[i]? = some x := by rfl) (hx : Loc X.env.scope x := by first | exact Or.inl rfl | exact Or.inr rfl) (hf : X.fn x = true ∨ X.env.scope.names.lookup x = some .local := by first | exact .inl rfl | exact .inr rfl) : QG X (.Name x pos) (gN i) [i] := by
  refine ⟨gName i, pg_name hN hi hx hf, fun L0 io0 H0 L io H g e S v d e' Q fr r h q => ?_⟩
  cases h
  exact q _ (fr.setV i r) (List.length_set ..) fun k hk => set_ne (by simpa using hk)
theorem qgs_nil : QGs X [] gsNil 0 [] := by
  refine ⟨⟨gNil, pgs_nil, fun L0 io0 H0 L io H g e S v d e' Q fr r h q => ?_⟩, fun l e e' h => ?_⟩
  · cases r with
    | nil => cases h; exact ⟨rfl, q _ fr rfl fun _ _ => rfl⟩
    | cons => cases h
  · cases l with
    | nil => rfl
    | cons => cases h
theorem qgs_cons (h1 : QG X tg gd vs) (h2 : QGs X ts gds n ws) (hp : ∀ {t u}, PG X tg t → PGs X ts u → PGs X (tg :: ts) (gCons t u) := by intro _ _ a b; exact pgs_cons a b) : QGs X (tg :: ts) (gsCons gd gds) (n + 1) (vs ++ ws) := by
  obtain ⟨t, p1, o1⟩ := h1
  obtain ⟨⟨u, p2, o2⟩, hn⟩ := h2
  refine ⟨⟨gCons t u, hp p1 p2, fun L0 io0 H0 L io H g e S v d e' Q fr r h q => ?_⟩, fun l e e' h => ?_⟩
  · cases r with
    | nil => cases h
    | cons ra rt =>
      rename_i v vs' d ds
      simp only [gsCons] at h
      cases h3 : gd d e with
      | none => rw [h3] at h; cases h
      | some e1 =>
        rw [h3] at h
        refine ⟨v, vs', rfl, o1 L0 io0 H0 L io H g e S v d e1 _ fr ra h3 fun g1 fr1 l1 k1 => ?_⟩
        refine o2 L0 io0 H0 L io H g1 e1 S vs' ds e' _ fr1 rt h fun g2 fr2 l2 k2 => ?_
        exact q g2 fr2 (l2.trans l1) fun k hk => (k2 k fun z => hk (List.mem_append_right _ z)).trans (k1 k fun z => hk (List.mem_append_left _ z))
  · cases l with
    | nil => cases h
    | cons d ds =>
      simp only [gsCons] at h
      cases h3 : gd d e with
      | none => rw [h3] at h; cases h
      | some e1 => rw [h3] at h; rw [List.length_cons, hn ds e1 e' h]
theorem qg_tup {k : Nat} (hc : X.calm = true) (h : QGs X ts gds n vs) (hn : (assignEach ts X.env).length = n := by rfl) (hst : (assignEach ts X.env).findIdx? (·.1) = none := by rfl) : QG X (.Tuple ts k pos) (gT gds) vs := by
  obtain ⟨⟨t, p, o⟩, hl⟩ := h
  refine ⟨gTup X.K n t, pg_tup hc p hn hst, fun L0 io0 H0 L io H g e S v d e' Q fr r h q => ?_⟩
  unfold gT at h
  cases h1 : asT d with
  | none => rw [h1] at h; cases h
  | some l =>
    rw [h1] at h
    obtain ⟨a, xs, rfl, hs, t'⟩ := asT_ok r h1
    exact ⟨a, xs, rfl, hs, by rw [t'.len]; exact hl l e e' h, o L0 io0 H0 L io H g e S xs l e' Q fr t' h q⟩
end
structure WalkR (K : PySem.W.Frag) (L : Addr → Prop) (io : List Addr) (H : Hp) (J : It) (l : List Dv) : Prop where
  go : ∀ (L1 : Addr → Prop) (io1 : List Addr) (H1 : Hp) (S : Sto) (i : Nat) (d : Dv), Stw L io H L1 io1 H1 → SR K L1 io1 H1 S → l[i]? = some d → J.go i H1 ∧ ∀ x H2, J.yld i H1 x H2 → SR K L1 io1 H2 S ∧ Stp L1 io1 H1 L1 io1 H2 ∧ VR K L1 io1 H2 x d
  stop : ∀ (L1 : Addr → Prop) (io1 : List Addr) (H1 : Hp), Stw L io H L1 io1 H1 → J.stop l.length H1
def FinI (K : PySem.W.Frag) (W : WX) (g : St) (L : Addr → Prop) (io : List Addr) (H : Hp) (R : It → Hp → Prop) : Res (List Dv) → Prop
  | .ok l S' => ∀ (J : It) (H' : Hp) (L' : Addr → Prop) (io' : List Addr), Stp L io H L' io' H' → SR K L' io' H' S' → WalkR K L' io' H' J l → R J H'
  | .ex c fs S' => ∀ (x : Option Addr) (H' : Hp) (L' : Addr → Prop) (io' : List Addr), Stp L io H L' io' H' → SR K L' io' H' S' → ExR K L' io' H' x fs → W (.ref (He.ga K c)) x g H'
  | .no => False
def rdi (K : PySem.W.Frag) (W : WX) (f : DL) : TI := fun g H R => ∃ (L0 : Addr → Prop) (io0 : List Addr) (H0 : Hp) (L : Addr → Prop) (io : List Addr) (e : Env) (S : Sto), FR K L0 io0 H0 L io H g e S ∧ FinI K W g L io H R (f e S)
abbrev QI (X : Cx) (W : WX) (tg e : Expr) (f : DL) : Prop := PI X tg e (rdi X.K W f)
theorem FinI.bind {α β : Type} {K : PySem.W.Frag} {W : WX} {R : (Addr → Prop) → List Addr → Hp → β → α → Prop} {f : Env → Sto → Res α} {k : α → Sto → Res (List Dv)} {g : St} {L0 L : Addr → Prop} {io0 io : List Addr} {H0 H : Hp} {e : Env} {S : Sto} {Q : It → Hp → Prop} {P : β → Hp → Prop}
    (fr : FR K L0 io0 H0 L io H g e S) (h : FinI K W g L io H Q (bnd (f e S) k))
    (n : ∀ (L1 : Addr → Prop) (io1 : List Addr) (H1 : Hp) (S1 : Sto) (a : α) (v : β), Stp L io H L1 io1 H1 → FR K L0 io0 H0 L1 io1 H1 g e S1 → R L1 io1 H1 v a → FinI K W g L1 io1 H1 Q (k a S1) → P v H1) : Rdg K W R f g H P := by
  refine ⟨L0, io0, H0, L, io, e, S, fr, ?_⟩
  cases hf : f e S with
  | ok a S1 =>
    rw [hf] at h
    intro v H1 L1 io1 s1 sr1 r1
    have h : FinI K W g L io H Q (k a S1) := h
    refine n L1 io1 H1 S1 a v s1 (fr.step s1 sr1) r1 ?_
    cases hk : k a S1 with
    | ok l S2 =>
      rw [hk] at h
      exact fun v H' L' io' s2 sr r2 => h v H' L' io' (s1.trans s2 fr.st.sub) sr r2
    | ex c fs S2 =>
      rw [hk] at h
      exact fun v H' L' io' s2 sr r2 => h v H' L' io' (s1.trans s2 fr.st.sub) sr r2
    | no => rw [hk] at h; exact h
  | ex c fs S1 => rw [hf] at h; exact h
  | no => rw [hf] at h; exact h
section
variable {K : PySem.W.Frag} {L : Addr → Prop} {io : List Addr} {H : Hp}
theorem SqT.stw {a : Addr} {xs : List V} {ds : List Dv} {L1 : Addr → Prop} {io1 : List Addr} {H1 : Hp} {v : V} (r : VR K L io H v (.tup ds)) (s : Stw L io H L1 io1 H1) : ∃ a xs, v = .ref a ∧ SqT K H1 a xs ∧ VRs K L1 io1 H1 xs ds := (r.stw s).tupS
theorem walk_tup {a : Addr} {ds : List Dv} (r : VR K L io H (.ref a) (.tup ds)) : WalkR K L io H (Itt K a) ds where
  go := fun L1 io1 H1 S i d s sr h => by
    obtain ⟨a', xs, e, hs, t⟩ := (r.stw s).tupS
    cases e
    obtain ⟨v, h1, h2⟩ := t.get h
    refine ⟨⟨xs, v, hs, h1⟩, fun x H2 ⟨e, y⟩ => ?_⟩
    subst e
    have := y xs hs
    rw [h1] at this
    cases this
    exact ⟨sr, Stp.refl .., h2⟩
  stop := fun L1 io1 H1 s => by
    obtain ⟨a', xs, e, hs, t⟩ := (r.stw s).tupS
    cases e
    exact ⟨xs, hs, by rw [t.len]; exact Nat.le_refl _⟩
/-- a list that no handle holds -/
def asF : Dv → Option (List Dv)
  | .lst l => some l
  | .rol l => some l
  | _ => none
theorem asF_ok {v : V} {d : Dv} {l : List Dv} (r : VR K L io H v d) (h : asF d = some l) : ∃ a xs, v = .ref a ∧ SqL K H a xs ∧ VRs K L io H xs l := by
  cases r with
  | lst nl e t => cases h; exact ⟨_, _, rfl, SqL.of e, t⟩
  | rol nl e t => cases h; exact ⟨_, _, rfl, .inl e, t⟩
  | rolK e t => cases h; exact ⟨_, _, rfl, e H, t⟩
  | _ => cases h
theorem walk_lst {a : Addr} {d : Dv} {ds : List Dv} (r : VR K L io H (.ref a) d) (h : asF d = some ds) : WalkR K L io H (Itl K a) ds where
  go := fun L1 io1 H1 S i d s sr hd => by
    obtain ⟨a', xs, e, hs, t⟩ := asF_ok (r.stw s) h
    cases e
    obtain ⟨v, h1, h2⟩ := t.get hd
    refine ⟨⟨xs, v, hs, h1⟩, fun x H2 ⟨e, y⟩ => ?_⟩
    subst e
    have := y xs hs
    rw [h1] at this
    cases this
    exact ⟨sr, Stp.refl .., h2⟩
  stop := fun L1 io1 H1 s => by
    obtain ⟨a', xs, e, hs, t⟩ := asF_ok (r.stw s) h
    cases e
    exact ⟨xs, hs, by rw [t.len]; exact Nat.le_refl _⟩
def rngD (lo : Int) (n : Nat) : List Dv := (List.range n).map fun (i : Nat) => Dv.int (lo + (i : Int))
theorem walk_rng {lo : Int} {n : Nat} : WalkR K L io H (Itr lo n) (rngD lo n) where
  go := fun L1 io1 H1 S i d s sr hd => by
    unfold rngD at hd
    rw [List.getElem?_map] at hd
    cases e : (List.range n)[i]? with
    | none => rw [e] at hd; cases hd
    | some j =>
      rw [e] at hd
      have hi := (List.getElem?_eq_some_iff.mp e)
      obtain ⟨h1, h2⟩ := hi
      rw [List.getElem_range] at h2
      subst h2
      cases hd
      rw [List.length_range] at h1
      refine ⟨h1, fun x H2 ⟨e, y⟩ => ?_⟩
      subst e y
      exact ⟨sr, Stp.refl .., .int _⟩
  stop := fun L1 io1 H1 s => by
    show n ≤ (rngD lo n).length
    unfold rngD
    rw [List.length_map, List.length_range]
    exact Nat.le_refl _
end
section
variable {X : Cx} {W : WX} {pos p : Pos} {tg a b : Expr} {f f2 : DE}
/-- what pyIter gives of a value -/
def IterR (X : Cx) (tg : Expr) (r : V → Hp → (It → Hp → Prop) → Prop) : Prop := ∀ (pins : List (Addr × Obj)) (s : Shared) (g : St) (H : Hp) (x : V) (v : Value) (R : It → Hp → Prop), Inv X pins g H s → RelV x v → r x H R → wpAny (model X.prog X.w) X.A (pyIter v) (PIE X pins g tg R) X.xe s
theorem IterR.or' {r r' : V → Hp → (It → Hp → Prop) → Prop} (h : IterR X tg r) (h' : IterR X tg r') : IterR X tg (fun x H R => r x H R ∨ r' x H R) := fun pins s g H x v R I rx q => q.elim (h pins s g H x v R I rx) (h' pins s g H x v R I rx)
theorem pi_of {l : Expr} {tl : TE} {r : V → Hp → (It → Hp → Prop) → Prop} (hl : PE X l tl) (hr : IterR X tg r) : PI X tg l (fun g H R => tl g H fun x H1 => r x H1 R) :=
  ⟨fun pins s g H R I h => thn (hl.run pins s g H _ I h) fun v s1 ⟨x, H1, I1, r1, q1⟩ => hr pins s1 g H1 x v R I1 r1 q1⟩
theorem iter_lst : IterR X tg (fun x H R => ∃ a, x = .ref a ∧ (∃ xs, SqL X.K H a xs) ∧ R (Itl X.K a) H) := by
  rintro pins s g H x v R I rx ⟨a, rfl, ⟨xs, hq⟩, q⟩
  obtain rfl : v = .ref a := rx
  obtain ⟨its, rv, p, hz⟩ := I.list hq
  exact wpAny_pyIter_list p.isList ⟨_, _, _, _, H, rfl, I.kept (t' := s.toks) fun b o e => Heap.get?_push_of_some _ e, turn_list a _, ⟨_, Heap.get?_push_size _ rfl, rfl, rfl⟩, fun b hb => by
    rw [show b = s.heap.objs.size from by simpa using hb]
    exact I.fpOk (Nat.le_refl _) (I.hok.fresh (Nat.le_refl _)), q⟩
theorem iter_tup : IterR X tg (fun x H R => ∃ a, x = .ref a ∧ (∃ xs, SqT X.K H a xs) ∧ R (Itt X.K a) H) := by
  rintro pins s g H x v R I rx ⟨a, rfl, ⟨xs, hq⟩, q⟩
  obtain rfl : v = .ref a := rx
  obtain ⟨its, rv, p, hz⟩ := I.tuple hq
  exact wpAny_pyIter_tuple (show s.heap.IsTuple a its.toArray from p) ⟨_, _, _, _, H, rfl, I.kept (t' := s.toks) fun b o e => Heap.get?_push_of_some _ e, turn_tuple a _, ⟨_, Heap.get?_push_size _ rfl, rfl, rfl⟩, fun b hb => by
    rw [show b = s.heap.objs.size from by simpa using hb]
    exact I.fpOk (Nat.le_refl _) (I.hok.fresh (Nat.le_refl _)), q⟩
theorem iter_str : IterR X tg (fun x H R => ∃ z, x = .str z ∧ R (Its z) H) := by
  rintro pins s g H x v R I rx ⟨z, rfl, q⟩
  obtain ⟨t, rfl⟩ := rx
  cases ha : z.cps.all (· < 128)
  · exact wpAny_pyIter_wide ha (pi_one (tk := s.toks) I _ (turn_str _ z t "str_iterator" (.inr rfl)) ⟨_, Heap.get?_push_size _ rfl, rfl, rfl⟩ q)
  · exact wpAny_pyIter_ascii ha (pi_one (tk := s.toks) I _ (turn_str _ z t "str_ascii_iterator" (.inl rfl)) ⟨_, Heap.get?_push_size _ rfl, rfl, rfl⟩ q)
def strL (z : Str) : List Dv := z.cps.toList.map fun c => Dv.str ⟨#[c]⟩
theorem walk_str {K : PySem.W.Frag} {L : Addr → Prop} {io : List Addr} {H : Hp} {z : Str} : WalkR K L io H (Its z) (strL z) where
  go := fun L1 io1 H1 S i d s sr hd => by
    unfold strL at hd
    rw [List.getElem?_map] at hd
    cases e : z.cps.toList[i]? with
    | none => rw [e] at hd; cases hd
    | some c =>
      rw [e] at hd
      cases hd
      have hi := (List.getElem?_eq_some_iff.mp e).1
      refine ⟨(by simpa using hi : i < z.cps.size), fun x H2 ⟨e2, c', y1, y2⟩ => ?_⟩
      subst e2 y2
      have : c' = c := by
        rw [Array.getElem?_toList] at e
        rw [e] at y1
        exact (Option.some.inj y1).symm
      subst this
      exact ⟨sr, Stp.refl .., .str _⟩
  stop := fun L1 io1 H1 s => by
    show z.cps.size ≤ (strL z).length
    unfold strL
    simp
def seqR (d : Dv) (S : Sto) : Res (List Dv) := match d with
  | .tup l => .ok l S
  | .lst l => .ok l S
  | .rol l => .ok l S
  | .str z => .ok (strL z) S
  | _ => .no
def iSq (f : DE) : DL := fun e S => bnd (f e S) seqR
theorem qi_seq (h : QE X W a f) : QI X W tg a (iSq f) := by
  have hp := pi_of h (IterR.or' (iter_lst (X := X) (tg := tg)) (IterR.or' iter_tup iter_str))
  refine ⟨fun pins s g H R I q => hp.run pins s g H R I ?_⟩
  obtain ⟨L0, io0, H0, L, io, e, S, fr, q⟩ := q
  refine FinI.bind (R := VR X.K) (k := seqR) fr q fun L1 io1 H1 S1 d v s1 fr1 r1 q => ?_
  cases d with
  | tup l =>
    obtain ⟨a, xs, rfl, hs, t⟩ := r1.tupS
    exact .inr (.inl ⟨a, rfl, ⟨xs, hs⟩, q _ H1 L1 io1 (Stp.refl ..) fr1.st (walk_tup r1)⟩)
  | lst l =>
    obtain ⟨a, xs, rfl, hs, t⟩ := asF_ok r1 rfl
    exact .inl ⟨a, rfl, ⟨xs, hs⟩, q _ H1 L1 io1 (Stp.refl ..) fr1.st (walk_lst r1 rfl)⟩
  | rol l =>
    obtain ⟨a, xs, rfl, hs, t⟩ := asF_ok r1 rfl
    exact .inl ⟨a, rfl, ⟨xs, hs⟩, q _ H1 L1 io1 (Stp.refl ..) fr1.st (walk_lst r1 rfl)⟩
  | str z =>
    cases r1
    exact .inr (.inr ⟨z, rfl, q _ H1 L1 io1 (Stp.refl ..) fr1.st walk_str⟩)
  | _ => exact q.elim
def rngR1 : List Dv → Sto → Res (List Dv)
  | [.int j], S => if -(2 ^ 62) ≤ j ∧ j < 2 ^ 62 then .ok (rngD 0 j.toNat) S else .no
  | _, _ => .no
def rngR2 : List Dv → Sto → Res (List Dv)
  | [.int i, .int j], S => if -(2 ^ 62) ≤ i ∧ i < 2 ^ 62 ∧ -(2 ^ 62) ≤ j ∧ j < 2 ^ 62 then .ok (rngD i (j - i).toNat) S else .no
  | _, _ => .no
def iRng1' (fa : DA) : DL := fun e S => bnd (fa e S) rngR1
def iRng2' (fa : DA) : DL := fun e S => bnd (fa e S) rngR2
theorem qi_range1 (hm : X.mg "range" = none) {fa : DA} (ha : QA X W [a] fa) (hg : Gl X "range" := by rfl) (hs : starEach [a] X.env = [(false, eval a X.env)] := by rfl) : QI X W tg (.Call (.Name "range" p) [a] [] pos) (iRng1' fa) := by
  have hp := pi_range1 (tg := tg) (p := p) (pos := pos) hg hm ha hs
  refine ⟨fun pins s g H R I q => hp.run pins s g H R I ?_⟩
  obtain ⟨L0, io0, H0, L, io, e, S, fr, q⟩ := q
  refine FinI.bind (R := VRs X.K) (k := rngR1) fr q fun L1 io1 H1 S1 l v s1 fr1 r1 q => ?_
  cases r1 with
  | nil => exact q.elim
  | cons r t =>
    cases r with
    | int j =>
      cases t with
      | nil =>
        simp only [rngR1] at q
        split at q
        · rename_i h
          exact ⟨j, rfl, h.1, h.2, q _ H1 L1 io1 (Stp.refl ..) fr1.st walk_rng⟩
        · exact q.elim
      | cons r2 t2 => exact q.elim
    | _ => exact q.elim
end
end DL
namespace DL
open PySem L2
def W0 : WX := fun _ _ _ _ => False
def lcR (tg : DG) (tt : DT) (te : DE) (e : Env) : List Dv → Sto → Res (List Dv)
  | [], S => .ok [] S
  | d :: ds, S => match tg d e with
    | none => .no
    | some e' => match tt e' S with
      | .ok b S1 => if b then (match te e' S1 with
          | .ok y S2 => (match lcR tg tt te e ds S2 with
            | .ok l S3 => .ok (y :: l) S3
            | _ => .no)
          | _ => .no) else lcR tg tt te e ds S1
      | _ => .no
def fLc (fi : DL) (tg : DG) (tt : DT) (te : DE) (vs : List Nat) : DL := fun e S => bnd (fi e S) fun ds S1 => match lcR tg tt te (wipeE e vs) ds S1 with
  | .ok l S2 => if l.length ≤ sizeLine then .ok l S2 else .no
  | _ => .no
def tTrue : DT := fun _ S => .ok true S
abbrev QTs (X : Cx) (W : WX) (es : List Expr) (f : DT) : Prop := PTs X es (rdt X.K W f)
theorem pts_imp {X : Cx} {e : List Expr} {t t' : TT} (h : PTs X e t) (i : ∀ g H Q, t' g H Q → t g H Q) : PTs X e t' := ⟨fun pins s g H Q I q => h.run pins s g H Q I (i g H Q q)⟩
theorem qts_nil {X : Cx} {W : WX} : QTs X W [] tTrue := pts_imp pts_nil fun g H Q q => by
  obtain ⟨L0, io0, H0, L, io, e, S, fr, q⟩ := q
  exact q.ok1 fr.st rfl
theorem qts_one {X : Cx} {W : WX} {c : Expr} {t : DT} (h : QT X W c t) : QTs X W [c] t := pts_one h
theorem FinI.bindF {K : PySem.W.Frag} {W : WX} {f : DL} {k : List Dv → Sto → Res (List Dv)} {g : St} {L0 L : Addr → Prop} {io0 io : List Addr} {H0 H : Hp} {e : Env} {S : Sto} {Q : V → Hp → Prop} {P : It → Hp → Prop}
    (fr : FR K L0 io0 H0 L io H g e S) (h : FinF K W g L io H Q (bnd (f e S) k))
    (n : ∀ (L1 : Addr → Prop) (io1 : List Addr) (H1 : Hp) (S1 : Sto) (a : List Dv) (J : It), Stp L io H L1 io1 H1 → FR K L0 io0 H0 L1 io1 H1 g e S1 → WalkR K L1 io1 H1 J a → FinF K W g L1 io1 H1 Q (k a S1) → P J H1) : rdi K W f g H P := by
  refine ⟨L0, io0, H0, L, io, e, S, fr, ?_⟩
  cases hf : f e S with
  | ok a S1 =>
    rw [hf] at h
    intro v H1 L1 io1 s1 sr1 r1
    have h : FinF K W g L io H Q (k a S1) := h
    refine n L1 io1 H1 S1 a v s1 (fr.step s1 sr1) r1 ?_
    cases hk : k a S1 with
    | ok l S2 =>
      rw [hk] at h
      intro v H' L' io' s2 sr2 ⟨p, xs, e1, e2, e3⟩
      refine h v H' L' io' (s1.trans s2 fr.st.sub) sr2 ⟨p, xs, e1, ?_, e3⟩
      rcases s1.back e2 with z | z
      · exact absurd e2 (sr1.dom p (s1.up p (fr.st.sub p z)))
      · exact z
    | ex c fs S2 =>
      rw [hk] at h
      exact fun v H' L' io' s2 sr r2 => h v H' L' io' (s1.trans s2 fr.st.sub) sr r2
    | no => rw [hk] at h; exact h
  | ex c fs S1 => rw [hf] at h; exact h
  | no => rw [hf] at h; exact h
section
variable {X : Cx} {W : WX} {elt tg iter : Expr} {ifs : List Expr} {scope : Scope} {own : List (Str × Nat)} {pos : Pos} {fi : DL} {gd : DG} {tt : DT} {te : DE} {vs : List Nat}
theorem rd_lc {K : PySem.W.Frag} {t : TG} (ho : TGok K t gd vs) {g : St} {H : Hp} {Q : VK} (q : rdF K W (fLc fi gd tt te vs) g H Q) : tLc (rdi K W fi) t (rdt K W0 tt) (rd K W0 te) vs g H Q := by
  obtain ⟨L0, io0, H0, L, io, e, S, fr, q⟩ := q
  refine FinI.bindF (k := fun ds S1 => match lcR gd tt te (wipeE e vs) ds S1 with
    | .ok l S2 => if l.length ≤ sizeLine then .ok l S2 else .no
    | _ => .no) fr q fun L1 io1 H1 S1 ds J s1 fr1 wk q => ?_
  cases hl : lcR gd tt te (wipeE e vs) ds S1 with
  | ex c fs S2 => rw [hl] at q; exact q.elim
  | no => rw [hl] at q; exact q.elim
  | ok l S2 =>
    rw [hl] at q
    simp only at q
    split at q
    · rename_i hz
      intro D hD
      have st0 := fr1.st
      -- the invariant
      refine ⟨fun i m H' => m = ds.length - i ∧ i ≤ ds.length ∧ ∃ (L' : Addr → Prop) (io' : List Addr) (S' : Sto) (acc : List V) (da dr : List Dv), FR K L0 io0 H0 L' io' H' (L2.wipe g vs) (wipeE e vs) S' ∧ Stp L1 io1 H1 L' io' H' ∧ Stw L1 io1 H1 L' io' H' ∧ L' D ∧ D ∉ io' ∧ H' D = some (.lst acc) ∧ VRs K L' io' H' acc da ∧ lcR gd tt te (wipeE e vs) (ds.drop i) S' = .ok dr S2 ∧ da ++ dr = l, ⟨ds.length, by simp, Nat.zero_le _, ?_⟩, ?_⟩
      · have s2 : Stp L1 io1 H1 (Ly L1 D) io1 (upd H1 D (.lst [])) := Stp.newV hD
        exact ⟨Ly L1 D, io1, S1, [], [], l, (fr1.step s2 (st0.newV hD)).wipe vs, s2, s2.stw st0.sub, .inr rfl, fun z => st0.dom D (st0.sub D z) hD, upd_same, .nil, by rw [List.drop_zero]; exact hl, rfl⟩
      · rintro i m H' ⟨rfl, hi, L', io', S', acc, da, dr, fr', sp, sw, lD, nD, hDa, ra, hr, hda⟩
        by_cases hlt : i < ds.length
        · obtain ⟨d, hd⟩ : ∃ d, ds[i]? = some d := ⟨_, List.getElem?_eq_getElem hlt⟩
          have hdrop : ds.drop i = d :: ds.drop (i + 1) := by
            rw [List.drop_eq_getElem_cons hlt]
            rw [List.getElem?_eq_getElem hlt] at hd
            cases hd
            rfl
          rw [hdrop] at hr
          obtain ⟨hgo, hy⟩ := wk.go L' io' H' S' i d sw fr'.st hd
          refine .inr ⟨hgo, fun H'' => ∃ m', m' < ds.length - i ∧ (m' = ds.length - (i + 1) ∧ i + 1 ≤ ds.length ∧ ∃ (L' : Addr → Prop) (io' : List Addr) (S' : Sto) (acc : List V) (da dr : List Dv), FR K L0 io0 H0 L' io' H'' (L2.wipe g vs) (wipeE e vs) S' ∧ Stp L1 io1 H1 L' io' H'' ∧ Stw L1 io1 H1 L' io' H'' ∧ L' D ∧ D ∉ io' ∧ H'' D = some (.lst acc) ∧ VRs K L' io' H'' acc da ∧ lcR gd tt te (wipeE e vs) (ds.drop (i + 1)) S' = .ok dr S2 ∧ da ++ dr = l), fun H'' h => h, fun x H2 y => ?_⟩
          obtain ⟨sr2, sp2, r2⟩ := hy x H2 y
          have fr2 := fr'.step sp2 sr2
          -- the target
          simp only [lcR] at hr
          cases hg : gd d (wipeE e vs) with
          | none => rw [hg] at hr; cases hr
          | some e' =>
            rw [hg] at hr
            simp only at hr
            refine ho L0 io0 H0 L' io' H2 (L2.wipe g vs) (wipeE e vs) S' x d e' _ fr2 r2 hg fun g' fr3 lg kg => ⟨?_, ?_⟩
            · exact (wipe_ext lg kg).trans (wipe_ext (L2.wipe_length g vs) fun k hk => by rw [wipe_get, if_neg hk])
            -- the test
            · cases ht : tt e' S' with
              | ex c fs S3 => rw [ht] at hr; cases hr
              | no => rw [ht] at hr; cases hr
              | ok b S3 =>
                rw [ht] at hr
                simp only at hr
                refine ⟨L0, io0, H0, L', io', e', S', fr3, ?_⟩
                rw [ht]
                intro b' H3 L3 io3 s3 sr3 eb
                subst eb
                have fr3' := fr2.step s3 sr3
                have sp3 := (sp.trans sp2 st0.sub).trans s3 st0.sub
                have sw3 := (sw.trans (sp2.stw fr'.st.sub)).trans (s3.stw fr2.st.sub)
                have l3 : L3 D := s3.up D (sp2.up D lD)
                have k2 : H2 D = some (.lst acc) := sp2.keep D _ hDa nD
                have n3 : D ∉ io3 := fun z => by
                  rcases s3.hn D z with q | q
                  · exact nD q
                  · rw [q] at k2; cases k2
                have k3 : H3 D = some (.lst acc) := s3.keep D _ k2 nD
                have ra3 := (ra.step sp2 fr'.st.sub).step s3 fr2.st.sub
                cases b' with
                | false =>
                  rw [if_neg Bool.false_ne_true] at hr
                  refine iteF ⟨_, by omega, rfl, hlt, L3, io3, S3, acc, da, dr, fr3', sp3, sw3, l3, n3, k3, ra3, hr, hda⟩
                | true =>
                  rw [if_pos rfl] at hr
                  refine iteT ?_
                  -- the element
                  cases he : te e' S3 with
                  | ex c fs S4 => rw [he] at hr; cases hr
                  | no => rw [he] at hr; cases hr
                  | ok y' S4 =>
                    rw [he] at hr
                    simp only at hr
                    refine ⟨L0, io0, H0, L3, io3, e', S3, fr3.step s3 sr3, ?_⟩
                    rw [he]
                    intro y H4 L4 io4 s4 sr4 ry
                    have k4 : H4 D = some (.lst acc) := s4.keep D _ k3 n3
                    have l4 : L4 D := s4.up D l3
                    have n4 : D ∉ io4 := fun z => by
                      rcases s4.hn D z with q | q
                      · exact n3 q
                      · rw [q] at k3; cases k3
                    have fr4 := fr3'.step s4 sr4
                    have sp4 := sp3.trans s4 st0.sub
                    have sw4 := sw3.trans (s4.stw fr3'.st.sub)
                    have ra4 := ra3.step s4 fr3'.st.sub
                    cases hrest : lcR gd tt te (wipeE e vs) (ds.drop (i + 1)) S4 with
                    | ex c fs S5 => rw [hrest] at hr; cases hr
                    | no => rw [hrest] at hr; cases hr
                    | ok l' S5 =>
                      rw [hrest] at hr
                      cases hr
                      have hlen : acc.length < sizeLine := by
                        rw [ra.len]
                        rw [← hda, List.length_append, List.length_cons] at hz
                        omega
                      have hD1 : H1 D = none := hD
                      have frm : FR K L0 io0 H0 L4 io4 (upd H4 D (.lst (acc ++ [y]))) (L2.wipe g vs) (wipeE e vs) S4 := by
                        refine fr4.mutD l4 n4 (fr1.fresh0 hD) fun j q' v1 v2 v3 hg' => ?_
                        obtain ⟨o, ho', _⟩ := (fr1.wipe vs).ownAt v1 v2 v3 hg'
                        exact ne_of_none ho' hD
                      refine ⟨acc, k4, hlen, _, by omega, rfl, hlt, L4, io4, S4, acc ++ [y], da ++ [y'], l', frm, ?_, sw4.trans (Stw.mut l4), l4, n4, upd_same, (ra4.app (.cons ry .nil)).mut l4, hrest, by rw [List.append_assoc]; exact hda⟩
                      exact ⟨sp4.pre, sp4.hn, sp4.new, fun a o h n => by rw [upd_ne (ne_of_none h hD1)]; exact sp4.keep a o h n, sp4.up⟩
        · have ei : i = ds.length := by omega
          subst ei
          rw [List.drop_length] at hr
          cases hr
          rw [List.append_nil] at hda
          subst hda
          refine .inl ⟨wk.stop L' io' H' sw, ?_⟩
          exact q _ H' L' io' sp fr'.st ⟨D, acc, rfl, hD, lD, nD, hDa, ra⟩
    · exact q.elim
theorem qf_lc (hc : X.calm = true) (hN : X.N.Nodup) (hi : QI X W tg iter fi) (ok : BlkOk X.N X.env.scope scope own)
    (hg : ∀ (s : Shared) (H : Hp) (C : Addr) (cl : List (Str × Addr)) (fp : List Addr), QG (X.blk s H scope (compEnvC scope cl C X.env) fp) tg gd (own.map (·.2)))
    (ht : ∀ (s : Shared) (H : Hp) (C : Addr) (cl : List (Str × Addr)) (fp : List Addr), QTs (X.blk s H scope (compEnvC scope cl C X.env) fp) W0 ifs tt)
    (he : ∀ (s : Shared) (H : Hp) (C : Addr) (cl : List (Str × Addr)) (fp : List Addr), QE (X.blk s H scope (compEnvC scope cl C X.env) fp) W0 elt te) (hs : ∀ x, foldedSetIterable iter X.env x = pure x := by intro _; rfl) :
    QF X W (.ListComp elt [⟨tg, iter, ifs, 0⟩] scope pos) (fLc fi gd tt te (own.map (·.2))) :=
  pe_imp (pe_lc (g := tgR X.K gd (own.map (·.2))) (tt := rdt X.K W0 tt) (te := rd X.K W0 te) hc hN hi ok (fun s H C cl fp => (hg s H C cl fp).canon) ht he hs) fun g H Q q => rd_lc tgR_ok q
end
end DL
namespace DL
open PySem L2
inductive Out where
  | nx (e : Env) (S : Sto) | rt (d : Dv) (S : Sto) | bk (e : Env) (S : Sto) | ct (e : Env) (S : Sto) | ex (c : Str) (fs : List (Str × Dv)) (e : Env) (S : Sto) | no
abbrev DS := Env → Sto → Out
def outR (K : PySem.W.Frag) (W : WX) (L0 : Addr → Prop) (io0 : List Addr) (H0 : Hp) (D : Ends) (L : Addr → Prop) (io : List Addr) (H : Hp) : Out → Prop
  | .nx e S => ∀ (g : St) (H' : Hp) (L' : Addr → Prop) (io' : List Addr), Stw L io H L' io' H' → FR K L0 io0 H0 L' io' H' g e S → D.nx g H'
  | .bk e S => ∀ (g : St) (H' : Hp) (L' : Addr → Prop) (io' : List Addr), Stw L io H L' io' H' → FR K L0 io0 H0 L' io' H' g e S → D.bk g H'
  | .ct e S => ∀ (g : St) (H' : Hp) (L' : Addr → Prop) (io' : List Addr), Stw L io H L' io' H' → FR K L0 io0 H0 L' io' H' g e S → D.ct g H'
  | .rt d S => ∀ (v : V) (H' : Hp) (L' : Addr → Prop) (io' : List Addr), SR K L' io' H' S → Stp L0 io0 H0 L' io' H' → VR K L' io' H' v d → D.rt v H'
  | .ex c fs e S => ∀ (x : Option Addr) (g : St) (H' : Hp) (L' : Addr → Prop) (io' : List Addr), Stw L io H L' io' H' → FR K L0 io0 H0 L' io' H' g e S → ExR K L' io' H' x fs → W (.ref (He.ga K c)) x g H'
  | .no => False
def rds (K : PySem.W.Frag) (W : WX) (f : DS) : TS := fun D g H => ∃ (L0 : Addr → Prop) (io0 : List Addr) (H0 : Hp) (L : Addr → Prop) (io : List Addr) (e : Env) (S : Sto), FR K L0 io0 H0 L io H g e S ∧ outR K W L0 io0 H0 D L io H (f e S)
abbrev QS (X : Cx) (W : WX) (st : Stmt) (f : DS) : Prop := PS X st (rds X.K W f)
abbrev QSs (X : Cx) (W : WX) (sts : List Stmt) (f : DS) : Prop := PSs X sts (rds X.K W f)
theorem outR.later {K : PySem.W.Frag} {W : WX} {L0 L L1 : Addr → Prop} {io0 io io1 : List Addr} {H0 H H1 : Hp} {D : Ends} {o : Out} (h : outR K W L0 io0 H0 D L io H o) (s : Stw L io H L1 io1 H1) : outR K W L0 io0 H0 D L1 io1 H1 o := by
  cases o with
  | nx e S => exact fun g H' L' io' s2 fr => h g H' L' io' (s.trans s2) fr
  | bk e S => exact fun g H' L' io' s2 fr => h g H' L' io' (s.trans s2) fr
  | ct e S => exact fun g H' L' io' s2 fr => h g H' L' io' (s.trans s2) fr
  | rt d S => exact h
  | ex c fs e S => exact fun x g H' L' io' s2 fr => h x g H' L' io' (s.trans s2) fr
  | no => exact h
def sBind {α : Type} (f : Env → Sto → Res α) (k : Env → α → Sto → Out) : DS := fun e S => match f e S with
  | .ok a S' => k e a S'
  | .ex c fs S' => .ex c fs e S'
  | .no => .no
theorem rds_bind {α β : Type} {K : PySem.W.Frag} {W : WX} {R : (Addr → Prop) → List Addr → Hp → β → α → Prop} {f : Env → Sto → Res α} {k : Env → α → Sto → Out} {D : Ends} {g : St} {H : Hp} {P : β → Hp → Prop} (h : rds K W (sBind f k) D g H)
    (n : ∀ (L0 : Addr → Prop) (io0 : List Addr) (H0 : Hp) (L : Addr → Prop) (io : List Addr) (H1 : Hp) (e : Env) (S : Sto) (a : α) (v : β), FR K L0 io0 H0 L io H1 g e S → R L io H1 v a → outR K W L0 io0 H0 D L io H1 (k e a S) → P v H1) : Rdg K W R f g H P := by
  obtain ⟨L0, io0, H0, L, io, e, S, fr, h⟩ := h
  unfold sBind at h
  refine ⟨L0, io0, H0, L, io, e, S, fr, ?_⟩
  cases hf : f e S with
  | ok a S1 =>
    rw [hf] at h
    intro v H1 L1 io1 s1 sr1 r1
    exact n L0 io0 H0 L1 io1 H1 e S1 a v (fr.step s1 sr1) r1 (outR.later h (s1.stw fr.st.sub))
  | ex c fs S1 =>
    rw [hf] at h
    exact fun x H' L' io' s sr r => h x g H' L' io' (s.stw fr.st.sub) (fr.step s sr) r
  | no => rw [hf] at h; exact h
section
variable {X : Cx} {W : WX} {pos : Pos} {a b c : Expr} {f : DE} {t : DT} {f1 f2 : DS} {st : Stmt} {rest sa sb : List Stmt} {i : Nat} {x : Str}
def sNil : DS := fun e S => .nx e S
def sSeq (f1 f2 : DS) : DS := fun e S => match f1 e S with
  | .nx e' S' => f2 e' S'
  | o => o
theorem qss_nil : QSs X W [] sNil := pss_imp pss_nil fun D g H h => by
  obtain ⟨L0, io0, H0, L, io, e, S, fr, h⟩ := h
  exact h g H L io (Stw.refl ..) fr
theorem qss_cons (h1 : QS X W st f1) (h2 : QSs X W rest f2) : QSs X W (st :: rest) (sSeq f1 f2) := pss_imp (pss_cons h1 h2) fun D g H h => by
  obtain ⟨L0, io0, H0, L, io, e, S, fr, h⟩ := h
  unfold sSeq at h
  refine ⟨L0, io0, H0, L, io, e, S, fr, ?_⟩
  cases hf : f1 e S with
  | nx e' S' =>
    rw [hf] at h
    exact fun g' H' L' io' s fr' => ⟨L0, io0, H0, L', io', e', S', fr', outR.later h s⟩
  | _ => rw [hf] at h; exact h
theorem qss_one (h1 : QS X W st f1) : QSs X W [st] f1 := pss_one h1
def sRet (f : DE) : DS := sBind f fun _ d S => .rt d S
theorem qs_ret (h : QE X W a f) : QS X W (.Return (some a) pos) (sRet f) := ps_imp (ps_ret h) fun D g H h => by
  refine rds_bind (R := VR X.K) (k := fun _ d S => .rt d S) h fun L0 io0 H0 L io H1 e S d v fr r q => ?_
  exact q v H1 L io fr.st fr.en r
def sExpr (f : DE) : DS := sBind f fun e _ S => .nx e S
theorem qs_expr (h : QE X W a f) (hs : swapsWith a none pos.line X.env = pure false := by rfl) : QS X W (.Expr a pos) (sExpr f) := ps_imp (ps_expr h hs) fun D g H h => by
  refine rds_bind (R := VR X.K) (k := fun e _ S => .nx e S) h fun L0 io0 H0 L io H1 e S d v fr r q => ?_
  exact q g H1 L io (Stw.refl ..) fr
/-- a statement that is never reached -/
def sNever : DS := fun _ _ => .no
theorem qs_never : QS X W st sNever := ps_imp ps_never fun D g H h => by
  obtain ⟨L0, io0, H0, L, io, e, S, fr, h⟩ := h
  exact h
def sIf (t : DT) (f1 f2 : DS) : DS := sBind t fun e b S => if b then f1 e S else f2 e S
theorem qs_if (hc : QT X W c t) (ha : QSs X W sa f1) (hb : QSs X W sb f2) : QS X W (.If c sa sb pos) (sIf t f1 f2) := ps_imp (ps_if hc ha hb) fun D g H h => by
  refine rds_bind (R := fun _ _ _ (v : Bool) d => v = d) (k := fun e b S => if b then f1 e S else f2 e S) h fun L0 io0 H0 L io H1 e S d v fr r q => ?_
  subst r
  cases v with
  | true => exact iteT ⟨L0, io0, H0, L, io, e, S, fr, q⟩
  | false => exact iteF ⟨L0, io0, H0, L, io, e, S, fr, q⟩
/-- x = e -/
def sAsg (i : Nat) (f : DE) : DS := sBind f fun e d S => .nx (e.set i (.va d)) S
theorem qs_asg (hN : X.N.Nodup) (i : Nat) {pos' : Pos} (h : QE X W a f) (hi : X.N[i]? = some x := by rfl) (hx : Loc X.env.scope x := by first | exact Or.inl rfl | exact Or.inr rfl) (hs : swapsWith a (some (.Name x pos')) pos.line X.env = pure false := by rfl) (hf : X.fn x = true ∨ X.env.scope.names.lookup x = some .local := by first | exact .inl rfl | exact .inr rfl) :
    QS X W (.Assign [.Name x pos'] a pos) (sAsg i f) := ps_imp (ps_set hN hi hx h hs hf) fun D g H h => by
  refine rds_bind (R := VR X.K) (k := fun e d S => .nx (e.set i (.va d)) S) h fun L0 io0 H0 L io H1 e S d v fr r q => ?_
  exact q _ H1 L io (Stw.refl ..) (fr.setV i r)
/-- targets of any form -/
def sAsgG (gd : DG) (f : DE) : DS := sBind f fun e d S => match gd d e with
  | some e' => .nx e' S
  | none => .no
/-- x, y = e1, e2 -/
def sPar (i j : Nat) (fa : DA) : DS := sBind fa fun e l S => match l with
  | [d1, d2] => .nx ((e.set i (.va d1)).set j (.va d2)) S
  | _ => .no
theorem qs_par {y : Str} {px py pt : Pos} {kt k2 pt2} {fa : DA} (hc : X.calm = true) (hN : X.N.Nodup) (i j : Nat) (ha : QA X W [a, b] fa) (hi : X.N[i]? = some x := by rfl) (hj : X.N[j]? = some y := by rfl) (hij : i ≠ j := by decide)
    (hx : X.env.scope.names.lookup x = some .local := by rfl) (hy : X.env.scope.names.lookup y = some .local := by rfl)
    (hw : swappedStores [.Tuple [.Name x px, .Name y py] kt pt] (.Tuple [a, b] k2 pt2) X.env = pure (some [x, y]) := by rfl)
    (hs : swapsWithSole [.Tuple [.Name x px, .Name y py] kt pt] (.Tuple [a, b] k2 pt2) pos.line X.env = pure false := by rfl) :
    QS X W (.Assign [.Tuple [.Name x px, .Name y py] kt pt] (.Tuple [a, b] k2 pt2) pos) (sPar i j fa) := ps_imp (ps_par hc hN hi hj hij hx hy ha hw hs) fun D g H h => by
  refine rds_bind (R := VRs X.K) (k := fun e l S => match l with
    | [d1, d2] => .nx ((e.set i (.va d1)).set j (.va d2)) S
    | _ => .no) h fun L0 io0 H0 L io H1 e S d v fr r q => ?_
  cases r with
  | nil => exact q.elim
  | cons r1 t1 =>
    cases t1 with
    | nil => exact q.elim
    | cons r2 t2 =>
      cases t2 with
      | cons => exact q.elim
      | nil => exact ⟨_, _, rfl, q _ H1 L io (Stw.refl ..) ((fr.setV i r1).setV j r2)⟩
def sPar3 (i j k : Nat) (fa : DA) : DS := sBind fa fun e l S => match l with
  | [d1, d2, d3] => .nx (((e.set i (.va d1)).set j (.va d2)).set k (.va d3)) S
  | _ => .no
/-- x = a new list: the slot's own -/
def sOwn (i : Nat) (f : DL) : DS := sBind f fun e l S => .nx (e.set i (.ow l)) S
/-- .. a handle -/
def sNew (i : Nat) (f : DL) : DS := sBind f fun e l S => .nx (e.set i (.va (.hdl S.length))) (S ++ [.lst l])
end
/-- a new list becomes a handle's -/
theorem SR.addO {K : PySem.W.Frag} {L : Addr → Prop} {io : List Addr} {H : Hp} {S : Sto} {p : Addr} {ob : Ob} (sr : SR K L io H S) (lp : L p) (np : p ∉ io) (h1 : ObR K L io H p ob) : SR K L (io ++ [p]) H (S ++ [ob]) := by
  have on : ∀ v d, VR K L io H v d → VR K L (io ++ [p]) H v d := fun v d r => VR.on (fun _ _ h => io_keep h) (fun a o e n => ⟨e, n⟩) r
  refine ⟨by rw [List.length_append, List.length_append, sr.len]; rfl, ?_, fun a h => ?_, sr.dom, fun k a o h3 h4 => ?_⟩
  · rw [List.nodup_append]
    exact ⟨sr.nd, by simp, fun a ha b hb => by simp at hb; subst hb; exact fun z => np (by rw [← z]; exact ha)⟩
  · rcases List.mem_append.mp h with z | z
    · exact sr.sub a z
    · simp at z; subst z; exact lp
  · by_cases hk : k < io.length
    · rw [List.getElem?_append_left hk] at h3
      rw [List.getElem?_append_left (by rw [← sr.len]; exact hk)] at h4
      exact (sr.obj k a o h3 h4).mono (fun _ e => e) on
    · have hk2 : io.length ≤ k := by omega
      rw [List.getElem?_append_right hk2] at h3
      rw [List.getElem?_append_right (by rw [← sr.len]; exact hk2), ← sr.len] at h4
      cases hd : k - io.length with
      | zero =>
        rw [hd] at h3 h4
        cases h3; cases h4
        exact h1.mono (fun _ e => e) on
      | succ n => rw [hd] at h3; simp at h3
theorem SR.addH {K : PySem.W.Frag} {L : Addr → Prop} {io : List Addr} {H : Hp} {S : Sto} {p : Addr} {xs : List V} {l : List Dv} (sr : SR K L io H S) (lp : L p) (np : p ∉ io) (h1 : H p = some (.lst xs)) (h2 : VRs K L io H xs l) : SR K L (io ++ [p]) H (S ++ [.lst l]) := sr.addO lp np ⟨xs, h1, h2⟩
section
variable {X : Cx} {W : WX} {pos : Pos} {a : Expr} {f : DL} {x : Str}
theorem FR.setH {K : PySem.W.Frag} {L0 L L1 : Addr → Prop} {io0 io io1 : List Addr} {H0 H H1 : Hp} {g : St} {e : Env} {S S1 : Sto} (fr : FR K L0 io0 H0 L io H g e S) (s : Stp L io H L1 io1 H1) (sr : SR K L1 io1 H1 S1) {v : V} {l : List Dv} (n : NewL K H L1 io1 H1 v l) :
    ∃ io2, Stp L io H L1 io2 H1 ∧ Stw L1 io1 H1 L1 io2 H1 ∧ SR K L1 io2 H1 (S1 ++ [.lst l]) ∧ VR K L1 io2 H1 v (.hdl S1.length) := by
  obtain ⟨p, xs, rfl, hp, lp, np, h1, h2⟩ := n
  have sr2 := sr.addH lp np h1 h2
  refine ⟨io1 ++ [p], ⟨?_, fun x hx => ?_, s.new, s.keep, s.up⟩, ⟨⟨[p], rfl⟩, fun _ h => .inl h, fun _ _ h _ => h⟩, sr2, .hdl (by rw [← sr.len]; simp)⟩
  · obtain ⟨m, rfl⟩ := s.pre
    exact ⟨m ++ [p], by simp⟩
  · rcases List.mem_append.mp hx with z | z
    · exact s.hn x z
    · simp at z; subst z; exact .inr hp
/-- a new list as a handle, as a value -/
def eNew (f : DL) : DE := fun e S => bnd (f e S) fun l S' => .ok (.hdl S'.length) (S' ++ [.lst l])
theorem qe_new (h : QF X W a f) : QE X W a (eNew f) := pe_imp h fun g H Q q => by
  obtain ⟨L0, io0, H0, L, io, e, S, fr, q⟩ := q
  refine ⟨L0, io0, H0, L, io, e, S, fr, ?_⟩
  have q : Fin X.K W (VR X.K) g L io H Q (bnd (f e S) fun l S' => .ok (.hdl S'.length) (S' ++ [.lst l])) := q
  cases hf : f e S with
  | no => rw [hf] at q; exact q
  | ex c fs S' => rw [hf] at q; exact q
  | ok l S' =>
    rw [hf] at q
    intro v H' L' io' s sr n
    obtain ⟨io2, s2, w2, sr2, r2⟩ := fr.setH s sr n
    exact q v H' L' io2 s2 sr2 r2
end
/-- what is a slot's own is own no more -/
def frzO : Ob → Dv
  | .lst l => .lst l
  | .dct l => .dic l
  | .ins c fs => .obj c fs
def sFrz (i : Nat) : DS := fun e S => match e[i]? with
  | some (.own o) => .nx (e.set i (.va (frzO o))) S
  | _ => .no
theorem vrp_of {K : PySem.W.Frag} {L : Addr → Prop} {io : List Addr} {H : Hp} : ∀ {kvs : List (Key × V)} {l : List (Key × Dv)}, PairR (VR K L io H) kvs l → VRp K L io H kvs l
  | _, _, .nil => .nil
  | (k, v) :: _, (k', d) :: _, .cons ⟨h1, h2⟩ t => by
    cases (show k = k' from h1)
    exact .cons h2 (vrp_of t)
theorem vrf_of {K : PySem.W.Frag} {L : Addr → Prop} {io : List Addr} {H : Hp} : ∀ {kvs : List (Str × V)} {l : List (Str × Dv)}, PairR (VR K L io H) kvs l → VRf K L io H kvs l
  | _, _, .nil => .nil
  | (k, v) :: _, (k', d) :: _, .cons ⟨h1, h2⟩ t => by
    cases (show k = k' from h1)
    exact .cons h2 (vrf_of t)
theorem of_vrf {K : PySem.W.Frag} {L : Addr → Prop} {io : List Addr} {H : Hp} : ∀ {kvs : List (Str × V)} {l : List (Str × Dv)}, VRf K L io H kvs l → PairR (VR K L io H) kvs l
  | _, _, .nil => .nil
  | _, _, .cons h t => .cons ⟨rfl, h⟩ (of_vrf t)
theorem ObR.frz {K : PySem.W.Frag} {L : Addr → Prop} {io : List Addr} {H : Hp} {p : Addr} {o : Ob} (h : ObR K L io H p o) (n : ¬ L p) : VR K L io H (.ref p) (frzO o) := by
  cases o with
  | lst l => obtain ⟨xs, h1, h2⟩ := h; exact .lst n h1 h2
  | dct l => obtain ⟨xs, h1, h2⟩ := h; exact .dic n (.inl h1) (vrp_of h2)
  | ins c fs => obtain ⟨dx, xs, h1, h2⟩ := h; exact .obj n h1 (vrf_of h2)
theorem FR.frz {K : PySem.W.Frag} {L0 L : Addr → Prop} {io0 io : List Addr} {H0 H : Hp} {g : St} {e : Env} {S : Sto} (fr : FR K L0 io0 H0 L io H g e S) {i : Nat} {o : Ob} (h : e[i]? = some (.own o)) :
    ∃ p, g[i]? = some (some (.ref p)) ∧ FR K L0 io0 H0 (Lz L p) io H g (e.set i (.va (frzO o))) S ∧ Stw L io H (Lz L p) io H := by
  obtain ⟨p, h1, h2, h3, h4, h5⟩ := fr.own i o h
  have hl : ∀ a, Lz L p a → L a := fun a z => z.1
  have on : ∀ v d, VR K L io H v d → VR K (Lz L p) io H v d := fun v d r => r.less hl
  have hi : i < e.length := (List.getElem?_eq_some_iff.mp h).1
  have ne : ∀ j q, j ≠ i → (∀ d, e[j]? ≠ some (.va d)) → e[j]? ≠ some .no → g[j]? = some (some (.ref q)) → q ≠ p := fun j q hj v1 v2 hg z => by
    subst z
    exact fr.inj i j q (fun z => hj z.symm) (by rw [h]; intro d z; cases z) v1 (by rw [h]; intro z; cases z) v2 h1 hg
  refine ⟨p, h1, ⟨fr.st.less hl fun a ha => ⟨fr.st.sub a ha, fun z => h3 (by rw [← z]; exact ha)⟩, by rw [List.length_set]; exact fr.len, fun j d hj => ?_, fun j m hj => ?_, fun j k q hjk v1 v2 n1 n2 g1 g2 => ?_, ⟨fr.en.pre, fr.en.hn, fun a z => fr.en.new a z.1, fr.en.keep, fun a z => ⟨fr.en.up a z, fun e => ?_⟩⟩, fr.sub0, fr.dom0⟩, ⟨⟨[], by simp⟩, fun a z => .inl z.1, fun _ _ e _ => e⟩⟩
  · rcases set_get hj with ⟨rfl, e1, e2⟩ | ⟨e1, e2⟩
    · cases e1
      exact ⟨.ref p, h1, (ObR.mono (o := o) h5 (fun _ h => h) on).frz fun z => z.2 rfl⟩
    · obtain ⟨v, r1, r2⟩ := fr.va j d e2
      exact ⟨v, r1, on _ _ r2⟩
  · rcases set_get hj with ⟨rfl, e1, e2⟩ | ⟨e1, e2⟩
    · cases e1
    · obtain ⟨q, r1, r2, r3, r4, r5⟩ := fr.own j m e2
      exact ⟨q, r1, ⟨r2, ne j q e1 (by rw [e2]; intro d z; cases z) (by rw [e2]; intro z; cases z) r1⟩, r3, r4, ObR.mono (o := m) r5 (fun _ h => h) on⟩
  · have hj : j ≠ i := fun z => by subst z; exact v1 _ (set_at hi)
    have hk : k ≠ i := fun z => by subst z; exact v2 _ (set_at hi)
    rw [set_ne hj] at v1 n1
    rw [set_ne hk] at v2 n2
    exact fr.inj j k q hjk v1 v2 n1 n2 g1 g2
  · rw [← e] at h4
    exact fr.dom0 a z h4
end DL
namespace DL
open PySem L2
def forR (gd : DG) (body : DS) : List Dv → Env → Sto → Out
  | [], e, S => .nx e S
  | d :: ds, e, S => match gd d e with
    | none => .no
    | some e' => match body e' S with
      | .nx e1 S1 => forR gd body ds e1 S1
      | .ct e1 S1 => forR gd body ds e1 S1
      | .bk e1 S1 => .nx e1 S1
      | o => o
def sFor (fi : DL) (gd : DG) (body : DS) : DS := sBind fi fun e ds S => forR gd body ds e S
theorem rds_bindI {K : PySem.W.Frag} {W : WX} {f : DL} {k : Env → List Dv → Sto → Out} {D : Ends} {g : St} {H : Hp} {P : It → Hp → Prop} (h : rds K W (sBind f k) D g H)
    (n : ∀ (L0 : Addr → Prop) (io0 : List Addr) (H0 : Hp) (L : Addr → Prop) (io : List Addr) (H1 : Hp) (e : Env) (S : Sto) (a : List Dv) (J : It), FR K L0 io0 H0 L io H1 g e S → WalkR K L io H1 J a → outR K W L0 io0 H0 D L io H1 (k e a S) → P J H1) : rdi K W f g H P := by
  obtain ⟨L0, io0, H0, L, io, e, S, fr, h⟩ := h
  unfold sBind at h
  refine ⟨L0, io0, H0, L, io, e, S, fr, ?_⟩
  cases hf : f e S with
  | ok a S1 =>
    rw [hf] at h
    intro v H1 L1 io1 s1 sr1 r1
    exact n L0 io0 H0 L1 io1 H1 e S1 a v (fr.step s1 sr1) r1 (outR.later h (s1.stw fr.st.sub))
  | ex c fs S1 =>
    rw [hf] at h
    exact fun x H' L' io' s sr r => h x g H' L' io' (s.stw fr.st.sub) (fr.step s sr) r
  | no => rw [hf] at h; exact h
theorem rd_for {K : PySem.W.Frag} {W : WX} {fi : DL} {gd : DG} {body : DS} {vs : List Nat} {D : Ends} {g : St} {H : Hp} (h : rds K W (sFor fi gd body) D g H) : tFor (rdi K W fi) (tgR K gd vs) (rds K W body) D g H := by
  refine rds_bindI (k := fun e ds S => forR gd body ds e S) h fun L0 io0 H0 L1 io1 H1 e S ds J fr wk q => ?_
  refine ⟨fun i m g' H' => m = ds.length - i ∧ i ≤ ds.length ∧ ∃ (L' : Addr → Prop) (io' : List Addr) (e' : Env) (S' : Sto), FR K L0 io0 H0 L' io' H' g' e' S' ∧ Stw L1 io1 H1 L' io' H' ∧ outR K W L0 io0 H0 D L' io' H' (forR gd body (ds.drop i) e' S'),
    ⟨ds.length, by simp, Nat.zero_le _, L1, io1, e, S, fr, Stw.refl .., by rw [List.drop_zero]; exact q⟩, ?_⟩
  rintro i m g' H' ⟨rfl, hi, L', io', e', S', fr', sw, q⟩
  by_cases hlt : i < ds.length
  · obtain ⟨d, hd⟩ : ∃ d, ds[i]? = some d := ⟨_, List.getElem?_eq_getElem hlt⟩
    have hdrop : ds.drop i = d :: ds.drop (i + 1) := by
      rw [List.drop_eq_getElem_cons hlt]
      rw [List.getElem?_eq_getElem hlt] at hd
      cases hd
      rfl
    rw [hdrop] at q
    simp only [forR] at q
    obtain ⟨hgo, hy⟩ := wk.go L' io' H' S' i d sw fr'.st hd
    refine .inr ⟨hgo, fun g'' H'' => ∃ m', m' < ds.length - i ∧ (m' = ds.length - (i + 1) ∧ i + 1 ≤ ds.length ∧ ∃ (L' : Addr → Prop) (io' : List Addr) (e' : Env) (S' : Sto), FR K L0 io0 H0 L' io' H'' g'' e' S' ∧ Stw L1 io1 H1 L' io' H'' ∧ outR K W L0 io0 H0 D L' io' H'' (forR gd body (ds.drop (i + 1)) e' S')), fun _ _ h => h, fun x H2 y => ?_⟩
    obtain ⟨sr2, sp2, r2⟩ := hy x H2 y
    have fr2 := fr'.step sp2 sr2
    have sw2 := sw.trans (sp2.stw fr'.st.sub)
    cases hg : gd d e' with
    | none => rw [hg] at q; exact q.elim
    | some e2 =>
      rw [hg] at q
      simp only at q
      refine ⟨L0, io0, H0, L', io', e', S', d, e2, fr2, r2, hg, fun g3 fr3 _ _ => ⟨L0, io0, H0, L', io', e2, S', fr3, ?_⟩⟩
      cases hb : body e2 S' with
      | nx e1 S1 =>
        rw [hb] at q
        exact fun g4 H4 L4 io4 s4 fr4 => ⟨_, by omega, rfl, hlt, L4, io4, e1, S1, fr4, sw2.trans s4, outR.later q ((sp2.stw fr'.st.sub).trans s4)⟩
      | ct e1 S1 =>
        rw [hb] at q
        exact fun g4 H4 L4 io4 s4 fr4 => ⟨_, by omega, rfl, hlt, L4, io4, e1, S1, fr4, sw2.trans s4, outR.later q ((sp2.stw fr'.st.sub).trans s4)⟩
      | bk e1 S1 =>
        rw [hb] at q
        exact fun g4 H4 L4 io4 s4 fr4 => q g4 H4 L4 io4 ((sp2.stw fr'.st.sub).trans s4) fr4
      | rt d1 S1 => rw [hb] at q; exact q
      | ex c fs e1 S1 =>
        rw [hb] at q
        exact fun x g4 H4 L4 io4 s4 fr4 r4 => q x g4 H4 L4 io4 ((sp2.stw fr'.st.sub).trans s4) fr4 r4
      | no => rw [hb] at q; exact q
  · have ei : i = ds.length := by omega
    subst ei
    rw [List.drop_length] at q
    exact .inl ⟨wk.stop L' io' H' sw, q g' H' L' io' (Stw.refl ..) fr'⟩
section
variable {X : Cx} {W : WX} {pos : Pos} {tg iter : Expr} {body : List Stmt} {fi : DL} {gd : DG} {fb : DS} {vs : List Nat}
theorem qs_for (hp : PassesOwn (model X.prog X.w) X.A X.env X.xe) (hc : X.calm = true) (hi : QI X W tg iter fi) (hg : QG X tg gd vs) (hb : QSs X W body fb) (hs : ∀ x, foldedSetIterable iter X.env x = pure x := by intro _; rfl) : QS X W (.For tg iter body [] pos) (sFor fi gd fb) :=
  ps_imp (ps_for hp hc hi hg.canon hb hs) fun D g H h => rd_for h
/-- a slot's own list is changed -/
theorem FR.ownO {K : PySem.W.Frag} {L0 L : Addr → Prop} {io0 io : List Addr} {H0 H : Hp} {g : St} {e : Env} {S : Sto} (fr : FR K L0 io0 H0 L io H g e S) {i : Nat} {o o' : Ob} {p : Addr} {u : HO} (h : e[i]? = some (.own o)) (hg : g[i]? = some (some (.ref p))) (lp : L p) (np : p ∉ io) (h0 : H0 p = none) (r : ObR K L io (upd H p u) p o') :
    FR K L0 io0 H0 L io (upd H p u) g (e.set i (.own o')) S := by
  have hi : i < e.length := (List.getElem?_eq_some_iff.mp h).1
  have eg : g.set i (some (.ref p)) = g := by
    apply List.ext_getElem?
    intro k
    rw [List.getElem?_set]
    by_cases hk : i = k
    · subst hk
      rw [if_pos rfl, if_pos (by rw [fr.len]; exact hi), hg]
    · rw [if_neg hk]
  have f1 := (fr.setN i (some (.ref p))).mutD (o := u) lp np h0 fun j q v1 v2 v3 hj => by
    have hji : j ≠ i := fun z => by subst z; exact v2 (set_at hi)
    rw [set_ne hji] at v1 v2 v3 hj
    intro z
    subst z
    exact fr.inj i j q (fun z => hji z.symm) (by rw [h]; intro d z; cases z) v1 (by rw [h]; intro z; cases z) v2 hg hj
  have f2 := f1.setS i (x := some (.ref p)) (s := .own o') (fun d z => by cases z) (fun l2 z => by cases z; exact ⟨p, rfl, lp, np, h0, r⟩) fun q _ _ hq j hj v1 v2 hgj => by
    cases hq
    rw [set_ne hj] at v1 v2 hgj
    exact fr.inj i j p (fun z => hj z.symm) (by rw [h]; intro d z; cases z) v1 (by rw [h]; intro z; cases z) v2 hg hgj
  rw [List.set_set, List.set_set, eg] at f2
  exact f2
theorem FR.ownL {K : PySem.W.Frag} {L0 L : Addr → Prop} {io0 io : List Addr} {H0 H : Hp} {g : St} {e : Env} {S : Sto} (fr : FR K L0 io0 H0 L io H g e S) {i : Nat} {l l' : List Dv} {p : Addr} {ys : List V} (h : e[i]? = some (.ow l)) (hg : g[i]? = some (some (.ref p))) (lp : L p) (np : p ∉ io) (h0 : H0 p = none) (r : VRs K L io H ys l') :
    FR K L0 io0 H0 L io (upd H p (.lst ys)) g (e.set i (.ow l')) S := fr.ownO h hg lp np h0 ⟨ys, upd_same, r.mut lp⟩
end
/-- a list's method by data: the list, the arguments; the list behind it, the answer -/
def OwnS (K : PySem.W.Frag) (r : V → List V → Hp → VK → Prop) (h : List Dv → List Dv → Option (List Dv × Dv)) : Prop :=
  ∀ (L : Addr → Prop) (io : List Addr) (H : Hp) (S : Sto) (p : Addr) (xs : List V) (l : List Dv) (vs : List V) (as l' : List Dv) (d : Dv) (Q : VK), SR K L io H S → H p = some (.lst xs) → L p → VRs K L io H xs l → VRs K L io H vs as → h l as = some (l', d) →
    (∀ ys v, VRs K L io H ys l' → VR K L io H v d → Q v (upd H p (.lst ys))) → r (.ref p) vs H Q
def sOwnM (h : List Dv → List Dv → Option (List Dv × Dv)) (i : Nat) (fa : DA) : DS := fun e S => match e[i]? with
  | some (.own (.lst l)) => sBind fa (fun e as S => match h l as with
    | some (l', _) => .nx (e.set i (.ow l')) S
    | none => .no) e S
  | _ => .no
theorem rd_ownM {K : PySem.W.Frag} {W : WX} {r : V → List V → Hp → VK → Prop} {h : List Dv → List Dv → Option (List Dv × Dv)} (hs : OwnS K r h) {fa : DA} {i : Nat} {D : Ends} {g : St} {H : Hp} (q : rds K W (sOwnM h i fa) D g H) : tDrop (tBM K "list" r (tVar i) (rda K W fa)) D g H := by
  obtain ⟨L0, io0, H0, L, io, e, S, fr, q⟩ := q
  unfold sOwnM at q
  cases hi : e[i]? with
  | none => rw [hi] at q; exact q.elim
  | some sl =>
    by_cases hl : ∃ l, sl = .ow l
    · obtain ⟨l, rfl⟩ := hl
      rw [hi] at q
      simp only at q
      obtain ⟨p, xs, h1, h2, h3, h4, h5, h6⟩ := fr.ow i l hi
      refine ⟨.ref p, h1, .inl ⟨rfl, xs, SqL.of h5⟩, ?_⟩
      refine ⟨L0, io0, H0, L, io, e, S, fr, ?_⟩
      simp only [sBind] at q
      cases hf : fa e S with
      | no => rw [hf] at q; exact q
      | ex c fs S1 => rw [hf] at q; exact fun x H' L' io' s sr r => q x g H' L' io' (s.stw fr.st.sub) (fr.step s sr) r
      | ok as S1 =>
        rw [hf] at q
        intro vs H1 L1 io1 s1 sr1 r1
        simp only at q
        cases hh : h l as with
        | none => rw [hh] at q; exact q.elim
        | some z =>
          obtain ⟨l', d⟩ := z
          rw [hh] at q
          have fr1 := fr.step s1 sr1
          have np : p ∉ io1 := fun z => by
            rcases s1.hn p z with q | q
            · exact h3 q
            · rw [q] at h5; cases h5
          refine hs L1 io1 H1 S1 p xs l vs as l' d _ sr1 (s1.keep p _ h5 h3) (s1.up p h2) (h6.step s1 fr.st.sub) r1 hh fun ys v ry rv => ?_
          exact q g _ L1 io1 ((s1.stw fr.st.sub).trans (Stw.mut (s1.up p h2))) (fr1.ownL hi h1 (s1.up p h2) np h4 ry)
    · rw [hi] at q
      rcases sl with _ | _ | (l | _ | _)
      · exact q.elim
      · exact q.elim
      · exact absurd ⟨l, rfl⟩ hl
      · exact q.elim
      · exact q.elim
theorem SR.setH {K : PySem.W.Frag} {L : Addr → Prop} {io : List Addr} {H : Hp} {S : Sto} {k : Nat} {a : Addr} {ob : Ob} {o : HO} (sr : SR K L io H S) (hk : io[k]? = some a) (r : ObR K L io (upd H a o) a ob) : SR K L io (upd H a o) (S.set k ob) := by
  have la : L a := sr.sub a (List.mem_of_getElem? hk)
  refine ⟨by rw [List.length_set]; exact sr.len, sr.nd, sr.sub, fun b hb => ?_, fun j b u h1 h2 => ?_⟩
  · by_cases e : b = a
    · rw [e, upd_same]; exact fun z => nomatch z
    · rw [upd_ne e]; exact sr.dom b hb
  · rcases set_get h2 with ⟨rfl, rfl, _⟩ | ⟨e1, e2⟩
    · rw [hk] at h1; cases h1; exact r
    · refine (sr.obj j b u h1 e2).mono (fun z ez => ?_) fun v d rv => rv.mut la
      rw [upd_ne (fun z => e1 ?_)]
      · exact ez
      · rw [← z] at hk
        obtain ⟨q1, q2⟩ := List.getElem?_eq_some_iff.mp h1
        obtain ⟨q3, q4⟩ := List.getElem?_eq_some_iff.mp hk
        exact (List.getElem_inj sr.nd).mp (q2.trans q4.symm)
theorem Stp.mutH {L : Addr → Prop} {io : List Addr} {H : Hp} {a : Addr} {o : HO} (h : a ∈ io) : Stp L io H L io (upd H a o) :=
  ⟨⟨[], by simp⟩, fun _ h => .inl h, fun _ h => .inl h, fun b u e n => by rw [upd_ne (fun z => n (by rw [z]; exact h))]; exact e, fun _ h => h⟩
def hdlM (h : List Dv → List Dv → Option (List Dv × Dv)) (S : Sto) (o : Dv) (as : List Dv) : Res Dv := match o with
  | .hdl k => match S[k]? with
    | some (.lst l) => match h l as with
      | some (l', d) => .ok d (S.set k (.lst l'))
      | none => .no
    | _ => .no
  | _ => .no
def lstHd (S : Sto) : Dv → Bool
  | .hdl k => match S[k]? with
    | some (.lst _) => true
    | _ => false
  | _ => false
def eHdlM (h : List Dv → List Dv → Option (List Dv × Dv)) (fo : DE) (fa : DA) : DE := fun e S => bnd (fo e S) fun o S1 => if lstHd S1 o then bnd (fa e S1) fun as S2 => hdlM h S2 o as else .no
/-- append, extend, insert, reverse -/
def appD (l as : List Dv) : Option (List Dv × Dv) := match as with
  | [d] => if l.length < sizeLine then some (l ++ [d], .non) else none
  | _ => none
theorem owns_app {K : PySem.W.Frag} : OwnS K rAppend appD := by
  intro L io H S p xs l vs as l' d Q sr hp lp rx ra hh q
  cases ra with
  | nil => cases hh
  | cons r t =>
    cases t with
    | cons => cases hh
    | nil =>
      simp only [appD] at hh
      split at hh
      · rename_i hl
        cases hh
        exact ⟨p, xs, _, rfl, rfl, hp, by rw [rx.len]; exact hl, q _ _ (rx.app (.cons r .nil)) .non⟩
      · cases hh
section
variable {X : Cx} {W : WX} {pos apos cpos p1 : Pos} {a o e : Expr} {es : List Expr} {f fo fv : DE} {fa : DA} {x name : Str} {id : String} {r : V → List V → Hp → VK → Prop} {h : List Dv → List Dv → Option (List Dv × Dv)}
/-- found.m(..), found the slot's own -/
theorem qs_ownM (i : Nat) (slot : Slot "list" name id) (hty : typeOf (.builtin id) = pure (.type "method_descriptor")) (hm : MtR X id r) (hs : OwnS X.K r h) (ha : QA X W (e :: es) fa)
    (hN : X.N[i]? = some x := by rfl) (hv : Vis X.env.scope x := by first | exact Or.inl rfl | exact Or.inr (Or.inl rfl) | exact Or.inr (Or.inr rfl))
    (hd : (x == ("__debug__" : Str)) = false := by decide) (hcd : (x == ("__classdict__" : Str)) = false := by decide)
    (hbase : attributeBase (.Name x p1) name X.env (eval (.Name x p1) X.env) = eval (.Name x p1) X.env := by rfl)
    (hfew : ((backTo cpos (starEach (e :: es) X.env)).all (fun x => !x.1) && (backToKw cpos (keywordEach [] X.env)).all (fun x => x.1.isSome)
      && decide ((e :: es).length + ([] : List Keyword).length + (if ([] : List Keyword).isEmpty then 0 else 1) < 30)) = true := by rfl)
    (hline : (apos.endLine == cpos.line) = true := by rfl) (hst : starEach (e :: es) X.env = (false, eval e X.env) :: starEach es X.env := by rfl) (hplain : (backTo cpos (starEach es X.env)).any (·.1) = false := by rfl)
    (hsw : swapsWith (.Call (.Attribute (.Name x p1) name apos) (e :: es) [] cpos) none pos.line X.env = pure false := by rfl) :
    QS X W (.Expr (.Call (.Attribute (.Name x p1) name apos) (e :: es) [] cpos) pos) (sOwnM h i fa) := ps_imp (ps_expr (pe_bm PySem.F.plainAttrs_list slot hty hm (pe_var hN hv hd hcd) ha hbase hfew hline hst hplain) hsw) fun D g H q => rd_ownM hs q
end
end DL
namespace DL
open PySem L2
theorem outR.bind {α β : Type} {K : PySem.W.Frag} {W : WX} {R : (Addr → Prop) → List Addr → Hp → β → α → Prop} {f : Env → Sto → Res α} {k : Env → α → Sto → Out} {D : Ends} {g : St} {L0 L : Addr → Prop} {io0 io : List Addr} {H0 H : Hp} {e : Env} {S : Sto} {P : β → Hp → Prop}
    (fr : FR K L0 io0 H0 L io H g e S) (h : outR K W L0 io0 H0 D L io H (sBind f k e S))
    (n : ∀ (L1 : Addr → Prop) (io1 : List Addr) (H1 : Hp) (S1 : Sto) (a : α) (v : β), Stp L io H L1 io1 H1 → FR K L0 io0 H0 L1 io1 H1 g e S1 → R L1 io1 H1 v a → outR K W L0 io0 H0 D L1 io1 H1 (k e a S1) → P v H1) : Rdg K W R f g H P := by
  unfold sBind at h
  refine ⟨L0, io0, H0, L, io, e, S, fr, ?_⟩
  cases hf : f e S with
  | ok a S1 =>
    rw [hf] at h
    intro v H1 L1 io1 s1 sr1 r1
    exact n L1 io1 H1 S1 a v s1 (fr.step s1 sr1) r1 (outR.later h (s1.stw fr.st.sub))
  | ex c fs S1 =>
    rw [hf] at h
    exact fun x H' L' io' s sr r => h x g H' L' io' (s.stw fr.st.sub) (fr.step s sr) r
  | no => rw [hf] at h; exact h
def setD (S : Sto) (o i v : Dv) : Option Sto := match o, i with
  | .hdl k, .int n => match S[k]? with
    | some (.lst l) => match ixN l.length n with
      | some j => some (S.set k (.lst (l.set j v)))
      | none => none
    | _ => none
  | _, _ => none
theorem setD_ok {K : PySem.W.Frag} {L : Addr → Prop} {io : List Addr} {H : Hp} {S S' : Sto} {o i v : Dv} {vo vi vv : V} (sr : SR K L io H S) (ro : VR K L io H vo o) (ri : VR K L io H vi i) (rv : VR K L io H vv v) (h : setD S o i v = some S') {Q : Hp → Prop}
    (q : ∀ H', Stp L io H L io H' → SR K L io H' S' → Q H') : rSetL vo vi vv H Q := by
  cases o with
  | hdl k =>
    cases i with
    | int n =>
      simp only [setD] at h
      cases hS : S[k]? with
      | none => rw [hS] at h; cases h
      | some ob =>
        rw [hS] at h
        cases ob with
        | lst l =>
          simp only at h
          cases hj : ixN l.length n with
          | none => rw [hj] at h; cases h
          | some j =>
            rw [hj] at h
            cases h
            cases ri
            cases ro with
            | hdl hk =>
              rename_i a
              obtain ⟨xs, e1, r1⟩ := sr.obj k a _ hk hS
              have ma : a ∈ io := List.mem_of_getElem? hk
              refine ⟨a, xs, n, j, rfl, rfl, e1, by rw [r1.len]; exact hj, ?_⟩
              exact q _ (Stp.mutH ma) (sr.setH hk ⟨_, upd_same, (VRs.set rv j r1).mut (sr.sub a ma)⟩)
        | _ => cases h
    | _ => cases h
  | _ => cases h
def sSetI (fo fi fv : DE) : DS := sBind fv fun e v S1 => sBind fo (fun e o S2 => sBind fi (fun e i S3 => match setD S3 o i v with
  | some S4 => .nx e S4
  | none => .no) e S2) e S1
section
variable {X : Cx} {W : WX} {pos tpos : Pos} {a o i : Expr} {fo fi fv : DE}
theorem qs_setI (ho : QE X W o fo) (hi : QE X W i fi) (hv : QE X W a fv)
    (hp : ∀ {to ti tv}, PE X o to → PE X i ti → PE X a tv → PS X (.Assign [.Subscript o i tpos] a pos) (tAsg tv (gSub to ti rSetL)) := by intro _ _ _ h1 h2 h3; exact ps_asg h3 (pg_sub h1 h2 set_list)) : QS X W (.Assign [.Subscript o i tpos] a pos) (sSetI fo fi fv) := ps_imp (hp ho hi hv) fun D g H h => by
  refine rds_bind (R := VR X.K) (k := fun e v S1 => sBind fo (fun e o S2 => sBind fi (fun e i S3 => match setD S3 o i v with
    | some S4 => .nx e S4
    | none => .no) e S2) e S1) h fun L0 io0 H0 L io H1 e S d v fr rv q => ?_
  refine outR.bind (R := VR X.K) (k := fun e o S2 => sBind fi (fun e i S3 => match setD S3 o i d with
    | some S4 => .nx e S4
    | none => .no) e S2) fr q fun L2 io2 H2 S2 od vo s2 fr2 ro q => ?_
  refine outR.bind (R := VR X.K) (k := fun e i S3 => match setD S3 od i d with
    | some S4 => .nx e S4
    | none => .no) fr2 q fun L3 io3 H3 S3 id vi s3 fr3 ri q => ?_
  cases hS : setD S3 od id d with
  | none => rw [hS] at q; exact q.elim
  | some S4 =>
    rw [hS] at q
    exact setD_ok fr3.st (ro.step s3 fr2.st.sub) ri ((rv.step s2 fr.st.sub).step s3 fr2.st.sub) hS fun H' s sr => q g H' L3 io3 (s.stw fr3.st.sub) (fr3.step s sr)
theorem get_list : PGet X (rIxL X.K) := by
  intro pins s g H x y v u Q I rx ry h
  obtain ⟨p, xs, i, z, rfl, rfl, hq, he, q⟩ := h
  cases rx
  obtain ⟨t, rfl⟩ := ry
  obtain ⟨its, r, pl, hz⟩ := I.list hq
  obtain ⟨j, h1, h2, h3, h4, h5⟩ := atI_get he
  obtain ⟨w, ew, rw'⟩ := r.get h2
  have hl := r.length
  have hn := line63
  have fin : EP X pins g Q w s := ⟨z, H, I, rw', q⟩
  by_cases h0 : 0 ≤ i
  · have hj : i.toNat = j := by
      rw [seqIndex_of h0 h5] at h1
      exact Option.some.inj h1
    exact wpAny_getItem_list pl.isList h0 (by omega) (by rw [hj]; simpa using ew) fin
  · have hj : (i + (its.toArray.size : Int)).toNat = j := by
      rw [seqIndex_neg (by omega) h4] at h1
      rw [List.size_toArray, ← hl]
      exact Option.some.inj h1
    exact wpAny_getItem_list_neg pl.isList (by omega) (by rw [List.size_toArray] <;> omega) (by omega) (by rw [hj]; simpa using ew) fin
def ixL (S : Sto) (d i : Dv) : Option Dv := match i with
  | .int i => (asL S d).bind fun l => atI l i
  | _ => none
def addI : Dv → Dv → Option Dv := iop fun i j => some (.int (i + j))
def subI : Dv → Dv → Option Dv := iop fun i j => some (.int (i - j))
def sAugI (op : Dv → Dv → Option Dv) (fo fi fv : DE) : DS := sBind fo fun e o S1 => sBind fi (fun e i S2 => match ixL S2 o i with
  | some x => sBind fv (fun e y S3 => match op x y with
    | some z => (match setD S3 o i z with
      | some S4 => .nx e S4
      | none => .no)
    | none => .no) e S2
  | none => .no) e S1
def IpS (K : PySem.W.Frag) (t : TIp) (op : Dv → Dv → Option Dv) : Prop := ∀ L io H x y a b d (Q : VK), VR K L io H x a → VR K L io H y b → op a b = some d → (∀ v, VR K L io H v d → Q v H) → t x y H Q
theorem ips_add {K : PySem.W.Frag} : IpS K (ipI fun i j => i + j) addI := by
  intro L io H x y a b d Q ra rb e q
  cases ra with
  | int i =>
    cases rb with
    | int j => cases e; exact ⟨i, j, rfl, rfl, q _ (.int _)⟩
    | _ => cases e
  | _ => cases e
theorem qs_augI {op : Operator} {tip : TIp} {od : Dv → Dv → Option Dv} (hop : PIp X op tip) (hod : IpS X.K tip od) (ho : QE X W o fo) (hi : QE X W i fi) (hv : QE X W a fv)
    (ha : ∀ ov iv new, augStore i ov iv new = (do holding [new, ov, iv] (setItem ov iv new); release [new, ov, iv] []; pure .next) := by intros; rfl) : QS X W (.AugAssign (.Subscript o i tpos) op a pos) (sAugI od fo fi fv) := ps_imp (ps_augS ho hi get_list hv hop set_list ha) fun D g H h => by
  refine rds_bind (R := VR X.K) (k := fun e o S1 => sBind fi (fun e i S2 => match ixL S2 o i with
    | some x => sBind fv (fun e y S3 => match od x y with
      | some z => (match setD S3 o i z with
        | some S4 => .nx e S4
        | none => .no)
      | none => .no) e S2
    | none => .no) e S1) h fun L0 io0 H0 L io H1 e S d v fr rv q => ?_
  refine outR.bind (R := VR X.K) (k := fun e i S2 => match ixL S2 d i with
    | some x => sBind fv (fun e y S3 => match od x y with
      | some z => (match setD S3 d i z with
        | some S4 => .nx e S4
        | none => .no)
      | none => .no) e S2
    | none => .no) fr q fun L2 io2 H2 S2 di vi s2 fr2 ri q => ?_
  have rv2 := rv.step s2 fr.st.sub
  cases hx : ixL S2 d di with
  | none => rw [hx] at q; exact q.elim
  | some x =>
    rw [hx] at q
    simp only at q
    cases di with
    | int n =>
      simp only [ixL] at hx
      cases hl : asL S2 d with
      | none => rw [hl] at hx; cases hx
      | some l =>
        rw [hl] at hx
        obtain ⟨p, xs, rfl, hs, t⟩ := asL_ok fr2.st rv2 hl
        obtain ⟨w, h3, h4⟩ := t.atI hx
        cases ri
        refine ⟨p, xs, n, w, rfl, rfl, hs, h3, ?_⟩
        refine outR.bind (R := VR X.K) (k := fun e y S3 => match od x y with
          | some z => (match setD S3 d (.int n) z with
            | some S4 => .nx e S4
            | none => .no)
          | none => .no) fr2 q fun L3 io3 H3 S3 dy vy s3 fr3 ry q => ?_
        cases hz : od x dy with
        | none => rw [hz] at q; exact q.elim
        | some z =>
          rw [hz] at q
          simp only at q
          refine hod L3 io3 H3 w vy x dy z _ (h4.step s3 fr2.st.sub) ry hz fun vz rz => ?_
          cases hS : setD S3 d (.int n) z with
          | none => rw [hS] at q; exact q.elim
          | some S4 =>
            rw [hS] at q
            exact setD_ok fr3.st (rv2.step s3 fr2.st.sub) (.int n) rz hS fun H' s sr => q g H' L3 io3 (s.stw fr3.st.sub) (fr3.step s sr)
    | _ => cases hx
/-- x += e -/
def sAug (op : Dv → Dv → Option Dv) (n : Nat) (fv : DE) : DS := fun e S => match e[n]? with
  | some (.va x) => sBind fv (fun e y S1 => match op x y with
    | some z => .nx (e.set n (.va z)) S1
    | none => .no) e S
  | _ => .no
end
def startE (n : Nat) (l : List Dv) : Env := l.map Sl.va ++ List.replicate (n - l.length) .no
def runF (np n : Nat) (fb : DS) : DF := fun S l => if l.length = np then (match fb (startE n l) S with
  | .rt d S' => .ok d S'
  | .nx _ S' => .ok .non S'
  | .ex c fs _ S' => .ex c fs S'
  | _ => .no) else .no
theorem VRs.map_get {K : PySem.W.Frag} {L : Addr → Prop} {io : List Addr} {H : Hp} {vs : List V} {l : List Dv} (r : VRs K L io H vs l) {i : Nat} {d : Dv} {n m : Nat} (h : (l.map Sl.va ++ List.replicate n Sl.no)[i]? = some (.va d)) : ∃ v, (vs.map some ++ List.replicate m (none : Option V))[i]? = some (some v) ∧ VR K L io H v d := by
  by_cases hi : i < l.length
  · rw [List.getElem?_append_left (by rw [List.length_map]; exact hi), List.getElem?_map] at h
    cases q : l[i]? with
    | none => rw [q] at h; cases h
    | some z =>
      rw [q] at h
      cases h
      obtain ⟨v, h1, h2⟩ := r.get q
      refine ⟨v, ?_, h2⟩
      rw [List.getElem?_append_left (by rw [List.length_map, r.len]; exact hi), List.getElem?_map, h1]
      rfl
  · rw [List.getElem?_append_right (by rw [List.length_map]; omega), List.getElem?_replicate] at h
    split at h <;> cases h
theorem start_no {l : List Dv} {n i : Nat} {s : Sl} (h : (l.map Sl.va ++ List.replicate n Sl.no)[i]? = some s) : (∃ d, s = .va d) ∨ s = .no := by
  by_cases hi : i < l.length
  · rw [List.getElem?_append_left (by rw [List.length_map]; exact hi), List.getElem?_map] at h
    cases q : l[i]? with
    | none => rw [q] at h; cases h
    | some z => rw [q] at h; cases h; exact .inl ⟨z, rfl⟩
  · rw [List.getElem?_append_right (by rw [List.length_map]; omega), List.getElem?_replicate] at h
    split at h
    · cases h; exact .inr rfl
    · cases h
theorem fr_start {K : PySem.W.Frag} {L : Addr → Prop} {io : List Addr} {H : Hp} {S : Sto} {vs : List V} {l : List Dv} {N : List Str} (sr : SR K L io H S) (r : VRs K L io H vs l) : FR K L io H L io H (L2.start N vs) (startE N.length l) S where
  st := sr
  len := by
    unfold L2.start startE
    rw [List.length_append, List.length_append, List.length_map, List.length_map, List.length_replicate, List.length_replicate, r.len]
  va := fun i d h => r.map_get h
  own := fun i m h => by rcases start_no h with ⟨d, z⟩ | z <;> cases z
  inj := fun i j p _ v1 _ n1 _ g1 _ => by
    cases h : (startE N.length l)[i]? with
    | none =>
      have h1 := List.getElem?_eq_none_iff.mp h
      have h2 := (List.getElem?_eq_some_iff.mp g1).1
      unfold L2.start at h2
      unfold startE at h1
      rw [List.length_append, List.length_map, List.length_replicate] at h1 h2
      rw [r.len] at h2
      omega
    | some s =>
      rcases start_no h with ⟨d, z⟩ | z
      · rw [z] at h; exact absurd h (v1 d)
      · rw [z] at h; exact absurd h n1
  en := Stp.refl ..
  sub0 := sr.sub
  dom0 := sr.dom
section
variable {P : Program} {w : World} {K : PySem.W.Frag} {mg : Str → Option Value} {base : Heap} {CX : CXT} {name qual : Str} {params : Arguments} {body : List Stmt} {scope : Scope} {dvs : List V} {kws : List (Str × V)} {f : Addr} {fd : FuncData} {N ps : List Str} {k : Nat} {fb : DS}
/-- what leaves the frame -/
theorem leave {L0 L : Addr → Prop} {io0 io : List Addr} {H0 H : Hp} {S : Sto} (sr : SR K L io H S) (s : Stp L0 io0 H0 L io H) (sub0 : ∀ a ∈ io0, L0 a) : Stp L0 io0 H0 (Lx L0 io) io H ∧ SR K (Lx L0 io) io H S ∧ (∀ a, Lx L0 io a → L a) := by
  have hl : ∀ a, Lx L0 io a → L a := fun a z => z.elim (s.up a) (sr.sub a)
  refine ⟨⟨s.pre, s.hn, fun a z => z.elim .inl fun z => (s.hn a z).elim (fun q => .inl (sub0 a q)) .inr, s.keep, fun a z => .inl z⟩, sr.less hl fun a z => .inr z, hl⟩
/-- a def of the text, by its body's walk: as fn_of, the calls' room without guards -/
theorem fng_of {dV kV doc pm cdv ct oc : Value} {an od : Option Addr} {osl : Array (Option Value)} {sp : Sp} (lk : K.lookup f = some ⟨oc, od, .func (PySem.W.fnOf name qual params body scope dV kV doc pm an cdv ct), osl⟩) (hc : PySem.W.codeIn K cdv qual = true) (Sc : FnScope N ps scope)
    (hl : ∀ vs H Q E, sp vs H Q E → vs.length = ps.length)
    (hb : ∀ (A : Around) (up : List PySem.Env) (s : Shared) (H : Hp) (vs : List V) (Q : VK) (E : XK), RoomG k (A.deeper (PyProof.Rows.envOfC qual scope s.heap.objs.size f cdv)) → sp vs H Q E →
      ∃ t, PSs (cxOf (L2.CX P w) P w K mg base N qual scope f cdv A up s H E) body t ∧ t { nx := fun _ H' => Q .non H', rt := Q } (L2.start N vs) H) :
    FnG P w K mg base (k + 1) f (PySem.W.fnOf name qual params body scope dV kV doc pm an cdv ct) ps sp := by
  constructor
  · exact hl
  intro A up s H args us vs Q E room e0 bd rv q
  have kin := e0.mod.kin.keeps fun b o z => (e0.bs b o z).1
  have nol := e0.mod.nolimit.keeps fun b o z => (e0.bs b o z).1
  have kinds : ∀ y ∈ ps.zip us, scope.names.lookup y.1 = some .local ∨ (scope.names.lookup y.1 = some .cell ∧ ((PySem.cellsFrom (s.heap.objs.size + 1) scope.names []).lookup y.1).isSome = true) := by
    rintro ⟨n, v⟩ hy
    have := Sc.par n (List.of_mem_zip hy).1
    rcases this with z | z
    · exact .inl z
    · exact .inr ⟨z, PySem.W.cellsFrom_some _ _ _ (.inl z)⟩
  refine codeAny_call_function room.r.depth (kin _ _ lk) rfl Sc.co Sc.gen rfl (PySem.W.codeRec_of kin hc) (bd _ _ _ _ ?_)
  refine wpAny_newFunctionEnv_cells Sc.kind kinds fun env he s1 x => ?_
  cases he
  obtain ⟨t, ht, hq⟩ := hb A up s H vs Q E (room.deeper _) q
  have I0 := inv_start (CX := L2.CX P w) (E := E) Sc room.r.hd e0 (hl _ _ _ _ q) rv x
  refine ⟨nol.keeps x.toInCall.keep, codeAny_func (wpAny_mono (ht.run [] s1 _ H _ I0 hq) ?_ fun _ _ z => z)⟩
  intro fl s' z
  match fl, z with
  | .ret u, ⟨v, g', H', J, r, q⟩ => exact ⟨v, H', J.os, J.bare, J.base, J.hok, r, q⟩
  | .next, ⟨g', H', J, q⟩ => exact ⟨.non, H', J.os, J.bare, J.base, J.hok, rfl, q⟩
  | .brk, ⟨_, _, _, q⟩ => exact q.elim
  | .cont, ⟨_, _, _, q⟩ => exact q.elim
/-- the body of a def as a piece over data -/
abbrev BodyG (P : Program) (w : World) (K : PySem.W.Frag) (mg : Str → Option Value) (base : Heap) (N : List Str) (qual : Str) (scope : Scope) (f : Addr) (k : Nat) (body : List Stmt) (fb : DS) : Prop :=
  ∀ (cdv : Value) (A : Around) (up : List PySem.Env) (s : Shared) (H : Hp) (E : XK), RoomG k (A.deeper (PyProof.Rows.envOfC qual scope s.heap.objs.size f cdv)) → Takes (cxOf (L2.CX P w) P w K mg base N qual scope f cdv A up s H E) (fun c d _ H => E c d H) →
    PassesOwn (model P w) (A.deeper (PyProof.Rows.envOfC qual scope s.heap.objs.size f cdv)) (PyProof.Rows.envOfC qual scope s.heap.objs.size f cdv) (cxOf (L2.CX P w) P w K mg base N qual scope f cdv A up s H E).xe →
    QSs (cxOf (L2.CX P w) P w K mg base N qual scope f cdv A up s H E) (fun c d _ H => E c d H) body fb
theorem fn_mk (F : FunD K name qual params body scope dvs kws f fd) (Sc : FnScope N ps scope) (hb : BodyG P w K mg base N qual scope f k body fb) :
    FnG P w K mg base (k + 1) f fd ps (spD K (runF ps.length N.length fb)) := by
  obtain ⟨oc, od, dV, kV, doc, pm, an, cdv, ct, osl, rfl, lk, hcd, _, _⟩ := F.ex
  refine fng_of lk hcd Sc (fun vs H Q E h => ?_) fun A outer s H vs Q E hr h => ⟨_, hb cdv A outer s H E hr (takes_of rfl rfl rfl rfl) (passes_of rfl), ?_⟩
  · obtain ⟨L, io, S, l, sr, r, h⟩ := h
    unfold runF at h
    by_cases hl : l.length = ps.length
    · rw [r.len, hl]
    · rw [if_neg hl] at h; exact h.elim
  · obtain ⟨L, io, S, l, sr, r, h⟩ := h
    unfold runF at h
    by_cases hl : l.length = ps.length
    · rw [if_pos hl] at h
      refine ⟨L, io, H, L, io, startE N.length l, S, fr_start sr r, ?_⟩
      show outR K _ L io H _ L io H (fb (startE N.length l) S)
      cases hf : fb (startE N.length l) S with
      | nx e S' =>
        rw [hf] at h
        intro g H' L' io' sw fr
        obtain ⟨s1, s2, s3⟩ := leave fr.st fr.en fr.sub0
        exact h .non H' io' s1 s2 .non
      | rt d S' =>
        rw [hf] at h
        intro v H' L' io' sr' s r'
        obtain ⟨s1, s2, s3⟩ := leave sr' s sr.sub
        exact h v H' io' s1 s2 (r'.less s3)
      | ex c fs e S' =>
        rw [hf] at h
        intro x g H' L' io' sw fr rx
        obtain ⟨s1, s2, s3⟩ := leave fr.st fr.en fr.sub0
        obtain ⟨a, vs', e1, e2, e3, e4⟩ := rx
        exact h x H' io' s1 s2 ⟨a, vs', e1, fun z => e2 (s3 a z), e3, e4.mono fun v d r => r.less s3⟩
      | _ => rw [hf] at h; exact h.elim
    · rw [if_neg hl] at h; exact h.elim
end
end DL
namespace DL
open PySem L2
mutual
def litB (K : PySem.W.Frag) : Dv → Value → Bool
  | .non, .none => true
  | .bl b, .bool c => b == c
  | .int i, .int j _ => decide (i = j)
  | .str x, .str y _ => decide (x = y)
  | .tup l, .ref a => (match K.lookup a with
    | some ⟨.type c, none, .seq its _, _⟩ => decide (c = "tuple") && (decide (its.size ≤ sizeLine) && litsB K l its.toList)
    | _ => false)
  | .rol l, .ref a => (match K.lookup a with
    | some ⟨.type c, none, .seq its _, _⟩ => decide (c = "list") && (decide (its.size ≤ sizeLine) && litsB K l its.toList)
    | _ => false)
  | _, _ => false
def litsB (K : PySem.W.Frag) : List Dv → List Value → Bool
  | [], [] => true
  | d :: l, u :: us => litB K d u && litsB K l us
  | _, _ => false
end
mutual
theorem litB_ok {K : PySem.W.Frag} : ∀ (d : Dv) (u : Value), litB K d u = true → ∃ v, RelV v u ∧ ∀ L io H, VR K L io H v d
  | .non, .none, _ => ⟨.non, rfl, fun _ _ _ => .non⟩
  | .bl b, .bool c, h => by
    have e : b = c := eq_of_beq (show (b == c) = true from by simpa [litB] using h)
    subst e
    exact ⟨.bl b, rfl, fun _ _ _ => .bl b⟩
  | .int i, .int j t, h => by
    have e : i = j := by simpa [litB] using h
    subst e
    exact ⟨.int i, ⟨t, rfl⟩, fun _ _ _ => .int i⟩
  | .str i, .str j t, h => by
    have e : i = j := by simpa [litB] using h
    subst e
    exact ⟨.str i, ⟨t, rfl⟩, fun _ _ _ => .str i⟩
  | .tup l, .ref a, h => by
    unfold litB at h
    cases q : K.lookup a with
    | none => rw [q] at h; cases h
    | some o =>
      obtain ⟨oc, od, dt, osl⟩ := o
      rw [q] at h
      cases oc with
      | type c =>
        cases od with
        | none =>
          cases dt with
          | seq its n =>
            obtain ⟨h1, h2⟩ := He.ba (show (decide (c = "tuple") && (decide (its.size ≤ sizeLine) && litsB K l its.toList)) = true from h)
            obtain ⟨h3, h4⟩ := He.ba h2
            obtain ⟨vs, r1, r2⟩ := litsB_ok l _ h4
            have ec : Value.type c = .type "tuple" := congrArg Value.type (of_decide_eq_true h1)
            exact ⟨.ref a, rfl, fun L io H => .tupK ⟨fun H' => .inr ⟨_, its, n, q, ec, rfl, of_decide_eq_true h3, r1⟩, _, q, ec, rfl⟩ (r2 L io H)⟩
          | _ => cases h
        | some b => cases dt <;> cases h
      | _ => cases od <;> cases dt <;> cases h
  | .rol l, .ref a, h => by
    unfold litB at h
    cases q : K.lookup a with
    | none => rw [q] at h; cases h
    | some o =>
      obtain ⟨oc, od, dt, osl⟩ := o
      rw [q] at h
      cases oc with
      | type c =>
        cases od with
        | none =>
          cases dt with
          | seq its n =>
            obtain ⟨h1, h2⟩ := He.ba (show (decide (c = "list") && (decide (its.size ≤ sizeLine) && litsB K l its.toList)) = true from h)
            obtain ⟨h3, h4⟩ := He.ba h2
            obtain ⟨vs, r1, r2⟩ := litsB_ok l _ h4
            exact ⟨.ref a, rfl, fun L io H => .rolK (fun H' => .inr ⟨_, its, n, q, congrArg Value.type (of_decide_eq_true h1), rfl, rfl, of_decide_eq_true h3, r1⟩) (r2 L io H)⟩
          | _ => cases h
        | some z => cases dt <;> cases h
      | _ => cases od <;> cases dt <;> cases h
theorem litsB_ok {K : PySem.W.Frag} : ∀ (l : List Dv) (us : List Value), litsB K l us = true → ∃ vs, Vals vs us ∧ ∀ L io H, VRs K L io H vs l
  | [], [], _ => ⟨[], .nil, fun _ _ _ => .nil⟩
  | d :: l, u :: us, h => by
    obtain ⟨h1, h2⟩ := He.ba (show (litB K d u && litsB K l us) = true from by simpa [litsB] using h)
    obtain ⟨v, r1, r2⟩ := litB_ok d u h1
    obtain ⟨vs, r3, r4⟩ := litsB_ok l us h2
    exact ⟨v :: vs, .cons r1 r3, fun L io H => .cons (r2 L io H) (r4 L io H)⟩
end
/-- the module's name x is the constant d -/
def GlobC (K : PySem.W.Frag) (mg : Str → Option Value) (x : Str) (d : Dv) : Prop := ∃ u v, mg x = some u ∧ RelV v u ∧ ∀ L io H, VR K L io H v d
theorem qe_con {X : Cx} {W : WX} {pos : Pos} {x : Str} {d : Dv} (G : GlobC X.K X.mg x d) (hg : Gl X x := by rfl) (hd : (x == ("__debug__" : Str)) = false := by decide) : QE X W (.Name x pos) (eC d) := by
  obtain ⟨u, v, h1, h2, h3⟩ := G
  exact qe_glob h1 h2 h3 hg hd
/-- a def of the module as a value -/
theorem qe_glo {X : Cx} {W : WX} {pos : Pos} {x : Str} (hm : X.mg x = some (.ref (He.ga X.K x))) (hg : Gl X x := by rfl) (hd : (x == ("__debug__" : Str)) = false := by decide) : QE X W (.Name x pos) (eC (.glo x)) := qe_glob (v := .ref (He.ga X.K x)) hm rfl (fun _ _ _ => .glo x) hg hd
inductive Ft where
  | glo (x : Str) | free (x : Str) | con (x : Str) (d : Dv) | any (p : PySem.W.Frag → Bool)
def Ft.ok (K : PySem.W.Frag) : Ft → Bool
  | .glo x => (He.Fa.glo x).ok K
  | .free x => (He.Fa.free x).ok K
  | .con x d => (match PySem.W.nsIn K mainGlobals x with
    | some (some u) => litB K d u
    | _ => false)
  | .any p => p K
theorem con_ok {K : PySem.W.Frag} {h : Heap} {mg : Str → Option Value} (X : K.In h) (G : h.Ns mainGlobals mg) {x : Str} {d : Dv} (c : (Ft.con x d).ok K = true) : GlobC K mg x d := by
  have c2 : (match PySem.W.nsIn K mainGlobals x with
    | some (some u) => litB K d u
    | _ => false) = true := c
  cases e : PySem.W.nsIn K mainGlobals x with
  | none => rw [e] at c2; cases c2
  | some o =>
    rw [e] at c2
    cases o with
    | none => cases c2
    | some u =>
      obtain ⟨v, r1, r2⟩ := litB_ok d u c2
      exact ⟨u, v, PySem.W.mg_of X G e, r1, r2⟩
def obsM (fa : List Ft) (fn : List He.DefD) (K : PySem.W.Frag) : He.AlD := ((fa.all fun f => f.ok K) && fn.all fun d => d.ok K, fn.map fun d => He.fnW K d.at_)
def SaysM (fa : List Ft) (fn : List He.DefD) (K : PySem.W.Frag) : Prop := obsM fa fn K = He.valD fn
section
variable {fa : List Ft} {fn : List He.DefD} {K : PySem.W.Frag}
theorem SaysM.fact (c : SaysM fa fn K) (i : Nat) {f : Ft} (h : fa[i]? = some f := by rfl) : f.ok K = true := by
  have c1 := (He.ba (show ((fa.all fun f => f.ok K) && fn.all fun d => d.ok K) = true from congrArg (fun z : He.AlD => z.1) c)).1
  exact List.all_eq_true.mp c1 f (List.mem_of_getElem? h)
theorem SaysM.def_ (c : SaysM fa fn K) (i : Nat) {d : He.DefD} (h : fn[i]? = some d := by rfl) : ∃ fd, FunD K d.name d.qual d.params d.body d.scope (d.dvs K) (d.kws K) (He.fAd K d.at_) fd := by
  have c2 := (He.ba (show ((fa.all fun f => f.ok K) && fn.all fun d => d.ok K) = true from congrArg (fun z : He.AlD => z.1) c)).2
  have e : fn.map (fun d => He.fnW K d.at_) = fn.map He.DefD.val := congrArg (fun z : He.AlD => z.2) c
  have e2 : (fn.map fun d => He.fnW K d.at_)[i]? = (fn.map He.DefD.val)[i]? := by rw [e]
  rw [List.getElem?_map, List.getElem?_map, h] at e2
  exact He.DefD.funD (Option.some.inj e2) (List.all_eq_true.mp c2 d (List.mem_of_getElem? h))
end
/-- a def of the module, from its body's walk -/
theorem fd_mk {P : Program} {w : World} {K : PySem.W.Frag} {mg : Str → Option Value} {base : Heap} {x : Str} {st : Stmt} {N ps : List Str} {k np n : Nat} {fb : DS} (F : ∃ fd, FunD K x x (defArgs st) (defBody st) (defScope st) [] [] (He.ga K x) fd) (hm : mg x = some (.ref (He.ga K x)))
    (Sc : FnScope N ps (defScope st))
    (hbi : ∀ (kV doc pm : Value) (an : Option Addr) (cdv ct : Value) (us : List Value), us.length = ps.length → bindArgs (PySem.W.fnOf x x (defArgs st) (defBody st) (defScope st) .none kV doc pm an cdv ct) ⟨us, []⟩ = pure (ps.zip us))
    (hnp : ps.length = np) (hn : N.length = n) (hb : BodyG P w K mg base N x (defScope st) (He.ga K x) (k + 1) (defBody st) fb) : FD P w K mg base (k + 2) x (runF np n fb) := by
  subst hnp hn
  obtain ⟨fd, F⟩ := F
  exact ⟨_, fd, ps, fn_mk F Sc hb, hm, rfl, F.kp, F.bindsN hbi⟩
/-- .. of which nothing is asked -/
theorem fd_no {P : Program} {w : World} {K : PySem.W.Frag} {mg : Str → Option Value} {base : Heap} {x : Str} {st : Stmt} {ps : List Str} {k : Nat} (F : ∃ fd, FunD K x x (defArgs st) (defBody st) (defScope st) [] [] (He.ga K x) fd) (hm : mg x = some (.ref (He.ga K x)))
    (hbi : ∀ (kV doc pm : Value) (an : Option Addr) (cdv ct : Value) (us : List Value), us.length = ps.length → bindArgs (PySem.W.fnOf x x (defArgs st) (defBody st) (defScope st) .none kV doc pm an cdv ct) ⟨us, []⟩ = pure (ps.zip us)) : FD P w K mg base k x gNo := by
  obtain ⟨fd, F⟩ := F
  exact ⟨_, fd, ps, FnG.never spD_no, hm, rfl, F.kp, F.bindsN hbi⟩
/-- sys.modules stands in the heap -/
def SysB (h : Heap) : Prop := ∃ mm, h.Ns sysModules mm
section
variable {P : Program} {w : World} {K : PySem.W.Frag} {mg mb : Str → Option Value} {k : Nat} {fa a : Addr} {fd : FuncData} {x : Str} {sp : Sp} {s1 : Shared} {vs : List Value} {ns : List Int}
/-- over an abstract heap that knows the script at most -/
theorem law_over (KX : K.In s1.heap) (G : s1.heap.Ns mainGlobals mg) (B : s1.heap.Ns builtinsNs mb) (hB : ∀ y : Str, y ≠ "__name__" → mb y = bootBuiltins y) (nl : s1.heap.NoLimit) (ng : s1.gens = #[]) (hs : SysB s1.heap)
    (oa : s1.heap.get? a = some { cls := .type "list", data := .seq vs.toArray }) (hr : RoomG k callerA)
    (F : ∀ base : Heap, K.In base → base.Ns mainGlobals mg → SysB base → FnG P w K mg base k fa fd [x] sp) (bd : ∀ (s : Shared) (u : Value), BindsTo s fd ⟨[u], []⟩ [(x, u)])
    (H : Hp) (hO : Only H) (hok : HOk P w H s1.heap) (hA : ∀ b, H b ≠ none → b = a) (hK : H a ≠ none → K.lookup a = none)
    (q : sp [.ref a] H (fun v _ => v = .bl true) fun _ _ _ => False) :
    codeAny (model P w) callerA (.call (.ref fa) ⟨[.ref a], []⟩) (fun r s' => r = .ok (.ret (.bool true)) ∧ OldK s1.heap s'.heap ∧ s'.os = s1.os ∧ PyProof.Rows.AllBare s'.gens) s1 := by
  have free : ∀ {b : Addr} {o : Obj}, s1.heap.get? b = some o → (∀ its n, o.data ≠ .seq its n) → H b = none := by
    intro b o e hn
    by_cases hb : H b = none
    · exact hb
    · cases hA b hb
      rw [oa] at e
      cases e
      exact absurd rfl (hn _ _)
  have nsB : ∀ {b : Addr} {m : Str → Option Value}, s1.heap.Ns b m → (hidT s1.heap H).Ns b m := by
    rintro b m ⟨o, es, ep, e, d, r⟩
    exact ⟨o, es, ep, hidT_get e (free e fun its n z => by rw [d] at z; cases z), d, r⟩
  have KB : K.In (hidT s1.heap H) := by
    intro b o e
    refine hidT_get (KX b o e) ?_
    by_cases hb : H b = none
    · exact hb
    · cases hA b hb
      rw [hK hb] at e
      cases e
  obtain ⟨mc, l1, l2⟩ := nl
  have e0 : Env0 P w K mg (hidT s1.heap H) callerA [] s1 H :=
    { frames := rfl, mod := ⟨KB, nsB G, ⟨mb, nsB B, hB⟩, mc, nsB l1, l2⟩, bs := fun b o z => of_hidT z, bsz := Nat.le_of_eq (hidT_size _ _), funs := trivial, frf := fun b z => (nomatch (show b ∈ ([] : List Addr) from z)), hok := hok, bare := .of_eq ng }
  refine codeAny_mono ((F _ KB (nsB G) (let ⟨mm, z⟩ := hs; ⟨mm, nsB z⟩)).run _ [] s1 H _ [.ref a] [.ref a] _ _ hr e0 (bd s1 (.ref a)) (.cons rfl .nil) q) ?_
  intro r s' z
  match r, z with
  | .error e, ⟨_, _, _, _, _, _, _, _, _, _, _, _, z⟩ => exact z.elim
  | .ok .next, z => exact z.elim
  | .ok .brk, z => exact z.elim
  | .ok .cont, z => exact z.elim
  | .ok (.ret u), ⟨v, H', os, bare, un, hok', r', z⟩ =>
    cases (show v = .bl true from z)
    cases (show u = Value.bool true from r')
    refine ⟨rfl, OldK.of_keep fun b o e => ?_, os, bare⟩
    rcases hO b with hb | ⟨ob, xs, hb⟩
    · exact un.keep b o e hb (fun z => nomatch (show b ∈ ([] : List Addr) from z)) (fun z => nomatch z)
    · have e1 := (hok b _ hb).1
      have e2 := (hok' b _ (un.frzs b ob _ hb)).1
      rw [e] at e1
      rw [e2, ← e1]
theorem law_g (KX : K.In s1.heap) (G : s1.heap.Ns mainGlobals mg) (B : s1.heap.Ns builtinsNs mb) (hB : ∀ y : Str, y ≠ "__name__" → mb y = bootBuiltins y) (nl : s1.heap.NoLimit) (ng : s1.gens = #[]) (hs : SysB s1.heap)
    (oa : s1.heap.get? a = some { cls := .type "list", data := .seq vs.toArray }) (hi : PyProof.Rows.IntsAre vs ns) (hl : ns.length ≤ sizeLine) (hr : RoomG k callerA)
    (F : ∀ base : Heap, K.In base → base.Ns mainGlobals mg → SysB base → FnG P w K mg base k fa fd [x] sp) (bd : ∀ (s : Shared) (u : Value), BindsTo s fd ⟨[u], []⟩ [(x, u)])
    (q : ∀ H : Hp, SqL K H a (ns.map V.int) → sp [.ref a] H (fun v _ => v = .bl true) fun _ _ _ => False) :
    codeAny (model P w) callerA (.call (.ref fa) ⟨[.ref a], []⟩) (fun r s' => r = .ok (.ret (.bool true)) ∧ OldK s1.heap s'.heap ∧ s'.os = s1.os ∧ PyProof.Rows.AllBare s'.gens) s1 := by
  have rv := vals_ints hi
  have hv := hi.length
  by_cases hk : ∃ o, K.lookup a = some o
  · obtain ⟨o, hk⟩ := hk
    have e := KX a o hk
    rw [oa] at e
    cases e
    refine law_over KX G B hB nl ng hs oa hr F bd (fun _ => none) (fun _ => .inl rfl) (fun _ _ z => nomatch z) (fun _ z => (z rfl).elim) (fun z => (z rfl).elim) (q _ (.inr ⟨_, vs.toArray, _, hk, rfl, rfl, rfl, ?_, by simpa using rv⟩))
    rw [List.size_toArray, hv]
    exact hl
  · have hk' : K.lookup a = none := by
      cases z : K.lookup a with
      | none => rfl
      | some o => exact absurd ⟨o, z⟩ hk
    let u : HO := .frz { cls := .type "list", data := .seq vs.toArray } (.lst (ns.map V.int))
    have at_ : ∀ b v, upd (fun _ => none) a u b = some v → b = a ∧ v = u := by
      intro b v z
      by_cases hb : b = a
      · subst hb
        rw [upd_same] at z
        cases z
        exact ⟨rfl, rfl⟩
      · rw [upd_ne hb] at z
        cases z
    refine law_over KX G B hB nl ng hs oa hr F bd (upd (fun _ => none) a u) (fun b => ?_) (fun b v z => ?_) (fun b z => ?_) (fun _ => hk') (q _ (.inl (.inr ⟨_, upd_same⟩)))
    · by_cases hb : b = a
      · exact .inr ⟨_, _, by rw [hb]; exact upd_same⟩
      · exact .inl (upd_ne hb)
    · obtain ⟨rfl, rfl⟩ := at_ b v z
      exact ⟨oa, by rw [List.length_map]; exact hl, vs, _, rv, oa⟩
    · cases h : upd (fun _ => none) a u b with
      | none => exact absurd h z
      | some v => exact (at_ b v h).1
end
/-- the goal that the head leaves -/
theorem walk_g {l : PySem.W.OpenLaw} {n k : Nat} {q : Program} {loose : List Str} {XP : (Str → Option Value) → Heap → Prop} {YP : World → Heap → Prop} {d : DefRec} {x : Str} (hn : l.most = some n) (hz : n ≤ sizeLine) (hd : d.params.defaults = []) (him : PyProof.Rows.importsNone q = true) (hr : RoomG k callerA)
    (F : ∀ (w : World) (mg : Str → Option Value) (fa : Addr) (h : Heap), YP w h → h.Ns mainGlobals mg → mg d.name = some (.ref fa) → ∃ (K : PySem.W.Frag) (fd : FuncData) (sp : Sp), K.In h ∧ (∀ (s : Shared) (u : Value), BindsTo s fd ⟨[u], []⟩ [(x, u)]) ∧
      (∀ (H : Hp) (a : Addr) (ns : List Int), ns.length ≤ n → SqL K H a (ns.map V.int) → sp [.ref a] H (fun v _ => v = .bl true) fun _ _ _ => False) ∧ ∀ base : Heap, K.In base → base.Ns mainGlobals mg → SysB base → FnG l.prog w K mg base k fa fd [x] sp) :
    PySem.W.WalkO q loose XP YP l.row.toRowW d [] (fun f vs => PySem.call f vs) := by
  refine Att.attach_call hn hd fun w s0 s1 mg mb fa o pm cd doc a vs ns G Y ho hd' hcd hm oa hi hl ng => ?_
  obtain ⟨K, fd, sp, KX, bd, q, hF⟩ := F w mg fa _ Y G.T.g hm
  exact law_g KX G.T.g G.T.b G.T.builtins G.T.nolimit ng (let ⟨mm, z, _⟩ := (G.T.seer him).mods; ⟨mm, z⟩) oa hi (Nat.le_trans hl hz) hr hF bd fun H hS => q H a ns hl hS
/-- the law's end -/
theorem law_end {K : PySem.W.Frag} {g : DF} (h : ∀ ns : List Int, ns.length ≤ 63 → ∃ S, g [] [.rol (ns.map .int)] = .ok (.bl true) S) (H : Hp) (a : Addr) (ns : List Int) (hl : ns.length ≤ 63) (hS : SqL K H a (ns.map V.int)) : spD K g [.ref a] H (fun v _ => v = .bl true) fun _ _ _ => False := by
  obtain ⟨S, e⟩ := h ns hl
  have hv : ∀ ns : List Int, VRs K (fun _ => False) [] H (ns.map V.int) (ns.map Dv.int) := fun ns => by
    induction ns with
    | nil => exact .nil
    | cons n r ih => exact .cons (.int n) ih
  refine ⟨fun _ => False, [], [], [.rol (ns.map .int)], ⟨rfl, .nil, fun _ h => (nomatch h), fun _ h => h.elim, fun k a o h => by simp at h⟩, .cons ?_ .nil, ?_⟩
  · rcases hS with hS | hS
    · exact .rol (fun z => z) hS (hv ns)
    · exact .rolK (fun H' => .inr hS) (hv ns)
  · rw [e]
    intro v H' io' _ _ r
    cases r
    rfl
end DL
namespace DL
open PySem L2
theorem call_isiA {X : Cx} : CallR X (.builtin "isinstance") (rIsiA X.K) := CallR.or call_isi (CallR.or call_isiT call_isiK)
section
variable {X : Cx} {W : WX} {elt tg iter : Expr} {ifs : List Expr} {scope : Scope} {own : List (Str × Nat)} {pos spos py : Pos} {fi : DL} {gd : DG} {tt : DT} {te : DE} {y : Str}
/-- name = [..] -/
theorem qs_asgLc (hN' : X.N.Nodup) (i : Nat) (own : List (Str × Nat)) (hc : X.calm = true) (hN : X.N.Nodup) (hi : QI X W tg iter fi) (ok : BlkOk X.N X.env.scope scope own)
    (hg : ∀ (s : Shared) (H : Hp) (C : Addr) (cl : List (Str × Addr)) (fp : List Addr), QG (X.blk s H scope (compEnvC scope cl C X.env) fp) tg gd (own.map (·.2)))
    (ht : ∀ (s : Shared) (H : Hp) (C : Addr) (cl : List (Str × Addr)) (fp : List Addr), QTs (X.blk s H scope (compEnvC scope cl C X.env) fp) W0 ifs tt)
    (he : ∀ (s : Shared) (H : Hp) (C : Addr) (cl : List (Str × Addr)) (fp : List Addr), QE (X.blk s H scope (compEnvC scope cl C X.env) fp) W0 elt te)
    (hy : X.N[i]? = some y := by rfl) (hyl : X.env.scope.names.lookup y = some .local := by rfl)
    (hsw : swapsWith (.ListComp elt [⟨tg, iter, ifs, 0⟩] scope pos) (some (.Name y py)) spos.line X.env = pure true := by exact sw_true rfl rfl rfl (by decide +kernel)) (hs : ∀ x, foldedSetIterable iter X.env x = pure x := by intro _; rfl) :
    QS X W (.Assign [.Name y py] (.ListComp elt [⟨tg, iter, ifs, 0⟩] scope pos) spos) (sAsg i (eFrz (fLc fi gd tt te (own.map (·.2))))) :=
  ps_imp (ps_setLc (g := tgR X.K gd (own.map (·.2))) (tt := rdt X.K W0 tt) (te := rd X.K W0 te) hc hN hy hyl hsw hi ok (fun s H C cl fp => (hg s H C cl fp).canon) ht he hs) fun D g H h => by
    refine rd_lc tgR_ok (rd_frz ?_)
    exact rds_bind (R := VR X.K) (k := fun e d S => .nx (e.set i (.va d)) S) h fun L0 io0 H0 L io H1 e S d v fr r q => q _ H1 L io (Stw.refl ..) (fr.setV i r)
/-- -e -/
def negD : Dv → Sto → Res Dv
  | .int i, S => .ok (.int (-i)) S
  | _, _ => .no
def eNeg (f : DE) : DE := fun e S => bnd (f e S) negD
end
end DL
namespace DL
open PySem L2
def keyD : Dv → Option Key
  | .int i => some (.inl i)
  | .str x => some (.inr x)
  | _ => none
def dV : Key → Dv
  | .inl i => .int i
  | .inr x => .str x
section
variable {K : PySem.W.Frag} {L L' : Addr → Prop} {io io' : List Addr} {H H' : Hp} {S : Sto}
theorem keyD_ok {v : V} {d : Dv} {k : Key} (r : VR K L io H v d) (h : keyD d = some k) : v = kV k := by
  cases r with
  | int i => cases h; rfl
  | str i => cases h; rfl
  | _ => cases h
def valD (l : List (Key × Dv)) (k : Key) : Option Dv := (l.find? fun kv => decide (kv.1 = k)).map (·.2)
def putD (l : List (Key × Dv)) (k : Key) (d : Dv) : List (Key × Dv) := if (l.any fun kv => decide (kv.1 = k)) = true then l.map (fun kv => if kv.1 = k then (kv.1, d) else kv) else l ++ [(k, d)]
def dropD (l : List (Key × Dv)) (k : Key) : List (Key × Dv) := l.filter fun kv => decide (kv.1 ≠ k)
def mergeD (l more : List (Key × Dv)) : List (Key × Dv) := more.foldl (fun acc kv => putD acc kv.1 kv.2) l
theorem VRp.pair : ∀ {kvs : List (Key × V)} {l : List (Key × Dv)}, VRp K L io H kvs l → PairR (VR K L io H) kvs l
  | _, _, .nil => .nil
  | _, _, .cons h t => .cons ⟨rfl, h⟩ (VRp.pair t)
theorem PairR.vrp : ∀ {kvs : List (Key × V)} {l : List (Key × Dv)}, PairR (VR K L io H) kvs l → VRp K L io H kvs l
  | _, _, .nil => .nil
  | (k, v) :: _, (k', d) :: _, .cons ⟨h1, h2⟩ t => by
    cases (show k = k' from h1)
    exact .cons h2 (PairR.vrp t)
theorem PairR.val {R : V → Dv → Prop} : ∀ {kvs : List (Key × V)} {l : List (Key × Dv)} (k : Key), PairR R kvs l → (∀ d, valD l k = some d → ∃ v, valV kvs k = some v ∧ R v d) ∧ (valD l k = none → valV kvs k = none)
  | [], _, k, .nil => ⟨fun d h => (by simp [valD] at h), fun _ => rfl⟩
  | (k1, v) :: kvs, (k2, d) :: l, k, .cons ⟨h1, h2⟩ t => by
    cases (show k1 = k2 from h1)
    have ih := PairR.val k t
    unfold valD valV at ih ⊢
    by_cases e : k1 = k
    · subst e
      refine ⟨fun d' h => ?_, fun h => ?_⟩
      · simp at h; subst h; exact ⟨v, by simp, h2⟩
      · simp at h
    · rw [List.find?_cons, List.find?_cons]
      simp only [e, decide_false]
      exact ih
theorem PairR.any {R : V → Dv → Prop} (k : Key) : ∀ {kvs : List (Key × V)} {l : List (Key × Dv)}, PairR R kvs l → (kvs.any fun kv => decide (kv.1 = k)) = l.any fun kv => decide (kv.1 = k)
  | _, _, .nil => rfl
  | (k1, v) :: kvs, (k2, d) :: l, .cons ⟨h1, h2⟩ t => by
    cases (show k1 = k2 from h1)
    rw [List.any_cons, List.any_cons, PairR.any k t]
theorem PairR.app {R : V → Dv → Prop} : ∀ {kvs kvs' : List (Key × V)} {l l' : List (Key × Dv)}, PairR R kvs l → PairR R kvs' l' → PairR R (kvs ++ kvs') (l ++ l')
  | _, _, _, _, .nil, h => h
  | _, _, _, _, .cons h t, h2 => .cons h (PairR.app t h2)
theorem PairR.mapP {R : V → Dv → Prop} {k : Key} {v : V} {d : Dv} (h : R v d) : ∀ {kvs : List (Key × V)} {l : List (Key × Dv)}, PairR R kvs l → PairR R (kvs.map fun kv => if kv.1 = k then (kv.1, v) else kv) (l.map fun kv => if kv.1 = k then (kv.1, d) else kv)
  | _, _, .nil => .nil
  | (k1, v1) :: kvs, (k2, d1) :: l, .cons ⟨h1, h2⟩ t => by
    cases (show k1 = k2 from h1)
    rw [List.map_cons, List.map_cons]
    refine .cons ?_ (PairR.mapP h t)
    by_cases e : k1 = k
    · rw [if_pos e, if_pos e]; exact ⟨rfl, h⟩
    · rw [if_neg e, if_neg e]; exact ⟨rfl, h2⟩
theorem PairR.put {R : V → Dv → Prop} {k : Key} {v : V} {d : Dv} {kvs : List (Key × V)} {l : List (Key × Dv)} (r : PairR R kvs l) (h : R v d) : PairR R (putK kvs k v) (putD l k d) := by
  unfold putK putD
  rw [r.any k]
  split
  · exact r.mapP h
  · exact r.app (.cons ⟨rfl, h⟩ .nil)
theorem PairR.drop {R : V → Dv → Prop} (k : Key) : ∀ {kvs : List (Key × V)} {l : List (Key × Dv)}, PairR R kvs l → PairR R (dropK kvs k) (dropD l k)
  | _, _, .nil => .nil
  | (k1, v1) :: kvs, (k2, d1) :: l, .cons ⟨h1, h2⟩ t => by
    cases (show k1 = k2 from h1)
    have ih := PairR.drop k t
    unfold dropK dropD at ih ⊢
    rw [List.filter_cons, List.filter_cons]
    by_cases e : k1 = k
    · simp only [e, ne_eq, not_true, decide_false, Bool.false_eq_true, if_false]; exact ih
    · simp only [ne_eq, e, not_false_iff, decide_true, if_true]; exact .cons ⟨rfl, h2⟩ ih
theorem PairR.merge {R : V → Dv → Prop} : ∀ {more : List (Key × V)} {lm : List (Key × Dv)} {kvs : List (Key × V)} {l : List (Key × Dv)}, PairR R more lm → PairR R kvs l → PairR R (mergeK kvs more) (mergeD l lm)
  | _, _, _, _, .nil, h => h
  | (k1, v1) :: more, (k2, d1) :: lm, kvs, l, .cons ⟨h1, h2⟩ t, h => by
    cases (show k1 = k2 from h1)
    have h3 : PairR R (putK kvs k1 v1) (putD l k1 d1) := PairR.put h h2
    exact PairR.merge (kvs := putK kvs k1 v1) (l := putD l k1 d1) t h3
end
def NewD (K : PySem.W.Frag) (H : Hp) (L' : Addr → Prop) (io' : List Addr) (H' : Hp) (v : V) (l : List (Key × Dv)) : Prop := ∃ p kvs, v = .ref p ∧ H p = none ∧ L' p ∧ p ∉ io' ∧ H' p = some (.dK kvs) ∧ PairR (VR K L' io' H') kvs l
abbrev DD := Env → Sto → Res (List (Key × Dv))
def FinD (K : PySem.W.Frag) (W : WX) (g : St) (L : Addr → Prop) (io : List Addr) (H : Hp) (Q : V → Hp → Prop) : Res (List (Key × Dv)) → Prop
  | .ok d S' => ∀ (v : V) (H' : Hp) (L' : Addr → Prop) (io' : List Addr), Stp L io H L' io' H' → SR K L' io' H' S' → NewD K H L' io' H' v d → Q v H'
  | .ex c fs S' => ∀ (x : Option Addr) (H' : Hp) (L' : Addr → Prop) (io' : List Addr), Stp L io H L' io' H' → SR K L' io' H' S' → ExR K L' io' H' x fs → W (.ref (He.ga K c)) x g H'
  | .no => False
def rdD (K : PySem.W.Frag) (W : WX) (f : DD) : TE := fun g H Q => ∃ (L0 : Addr → Prop) (io0 : List Addr) (H0 : Hp) (L : Addr → Prop) (io : List Addr) (e : Env) (S : Sto), FR K L0 io0 H0 L io H g e S ∧ FinD K W g L io H Q (f e S)
abbrev QD (X : Cx) (W : WX) (e : Expr) (f : DD) : Prop := PE X e (rdD X.K W f)
def eFrzD (f : DD) : DE := fun e S => bnd (f e S) fun l S' => .ok (.dic l) S'
theorem rd_frzD {K : PySem.W.Frag} {W : WX} {f : DD} {g : St} {H : Hp} {Q : VK} (q : rd K W (eFrzD f) g H Q) : rdD K W f g H Q := by
  obtain ⟨L0, io0, H0, L, io, e, S, fr, q⟩ := q
  refine ⟨L0, io0, H0, L, io, e, S, fr, ?_⟩
  have q : Fin K W (VR K) g L io H Q (bnd (f e S) fun l S' => .ok (.dic l) S') := q
  cases hf : f e S with
  | no => rw [hf] at q; exact q
  | ex c fs S' => rw [hf] at q; exact q
  | ok l S' =>
    rw [hf] at q
    intro v H' L' io' s sr ⟨p, xs, hv, hp, lp, np, h1, h2⟩
    subst hv
    have hl : ∀ a, Lz L' p a → L' a := fun a z => z.1
    refine q _ H' (Lz L' p) io' ⟨s.pre, s.hn, fun a z => s.new a z.1, s.keep, fun a z => ⟨s.up a z, fun e => fr.st.dom a z (by rw [e]; exact hp)⟩⟩ (sr.less hl fun a ha => ⟨sr.sub a ha, fun e => np (by rw [← e]; exact ha)⟩) (.dic (fun z => z.2 rfl) (.inl h1) (h2.mono fun v d r => r.less hl).vrp)
theorem qe_frzD {X : Cx} {W : WX} {a : Expr} {f : DD} (h : QD X W a f) : QE X W a (eFrzD f) := pe_imp h fun g H Q q => rd_frzD q
/-- {} -/
def dNil : DD := fun _ S => .ok [] S
theorem qd_nil {X : Cx} {W : WX} {pos : Pos} : QD X W (.Dict [] [] pos) dNil := pe_imp pe_dnewK fun g H Q q => by
  obtain ⟨L0, io0, H0, L, io, e, S, fr, q⟩ := q
  intro p hp
  exact q _ _ (Ly L p) io (Stp.newV hp) (fr.st.newV hp) ⟨p, [], rfl, hp, .inr rfl, fun z => fr.st.dom p (fr.st.sub p z) hp, upd_same, .nil⟩
/-- {k: v, ..} -/
abbrev DP := Env → Sto → Res (List (Dv × Dv))
def pNil : DP := fun _ S => .ok [] S
def pCons (fk fv : DE) (fp : DP) : DP := fun e S => bnd (fk e S) fun k S1 => bnd (fv e S1) fun v S2 => bnd (fp e S2) fun l S3 => .ok ((k, v) :: l) S3
section
variable {X : Cx} {W : WX} {pos : Pos} {k v o i : Expr} {ks : List (Option Expr)} {vs : List Expr} {fk fv f f2 : DE} {fp : DP}
def keysD : List (Dv × Dv) → Option (List (Key × Dv))
  | [] => some []
  | (k, v) :: r => (keyD k).bind fun k' => (keysD r).map fun l => (k', v) :: l
def kDisp (l : List (Dv × Dv)) (S : Sto) : Res (List (Key × Dv)) := match keysD l with
  | some m => if m.length ≤ 15 then .ok (mergeD [] m) S else .no
  | none => .no
def dDisp (fp : DP) : DD := fun e S => bnd (fp e S) kDisp
theorem FinD.later {K : PySem.W.Frag} {g : St} {L L1 : Addr → Prop} {io io1 : List Addr} {H H1 : Hp} {S1 : Sto} {Q : V → Hp → Prop} {r : Res (List (Key × Dv))} (h : FinD K W g L io H Q r) (s : Stp L io H L1 io1 H1) (sub : ∀ x ∈ io, L x) (sr1 : SR K L1 io1 H1 S1) : FinD K W g L1 io1 H1 Q r := by
  cases r with
  | ok l S2 =>
    intro v H' L' io' s2 sr2 ⟨p, xs, e1, e2, e3⟩
    refine h v H' L' io' (s.trans s2 sub) sr2 ⟨p, xs, e1, ?_, e3⟩
    rcases s.back e2 with z | z
    · exact absurd e2 (sr1.dom p (s.up p (sub p z)))
    · exact z
  | ex c fs S2 => exact fun v H' L' io' s2 sr r2 => h v H' L' io' (s.trans s2 sub) sr r2
  | no => exact h
/-- d[k], of a frozen dict or a handle's -/
def asD (S : Sto) : Dv → Option (List (Key × Dv))
  | .dic l => some l
  | .hdl k => match S[k]? with
    | some (.dct l) => some l
    | _ => none
  | _ => none
theorem asD_ok {K : PySem.W.Frag} {L : Addr → Prop} {io : List Addr} {H : Hp} {S : Sto} {v : V} {d : Dv} {l : List (Key × Dv)} (s : SR K L io H S) (r : VR K L io H v d) (h : asD S d = some l) : ∃ a kvs, v = .ref a ∧ Rd H a (.dK kvs) ∧ PairR (VR K L io H) kvs l := by
  cases r with
  | dic nl e t => cases h; exact ⟨_, _, rfl, e, t.pair⟩
  | hdl hk =>
    rename_i a k
    cases q : S[k]? with
    | none => simp [asD, q] at h
    | some o =>
      cases o with
      | dct l' =>
        simp [asD, q] at h
        subst h
        obtain ⟨xs, e, t⟩ := s.obj k a _ hk q
        exact ⟨a, xs, rfl, .inl e, t⟩
      | _ => simp [asD, q] at h
  | _ => cases h
theorem asD_x {K : PySem.W.Frag} {L : Addr → Prop} {io : List Addr} {H : Hp} {S : Sto} {v : V} {d : Dv} {l : List (Key × Dv)} (s : SR K L io H S) (r : VX K L io H v d) (h : asD S d = some l) : ∃ a kvs, v = .ref a ∧ Rd H a (.dK kvs) ∧ PairR (VR K L io H) kvs l := by
  rcases r with r | ⟨p, o, rfl, rfl, np, ob⟩
  · exact asD_ok s r h
  · cases o with
    | dct m => cases h; obtain ⟨kvs, e, t⟩ := ob; exact ⟨p, kvs, rfl, .inl e, t⟩
    | lst m => cases h
    | ins c fs => cases h
def dgetD (S : Sto) (d k : Dv) : Option (Dv × Sto) := (asD S d).bind fun l => (keyD k).bind fun k' => (valD l k').map fun x => (x, S)
theorem qe_dget {kk : Nat} (hr : Room kk X.A) (ho : QX X W o f) (hi : QX X W i f2) (hs : NoSl i := by exact fun _ _ => rfl) : QE X W (.Subscript o i pos) (eBin dgetD f f2) := pe_imp (pe_dget (hu_of hr) ho hi hs) fun g H Q q => by
  refine rd_bin (r := fun x y H Q => ∃ a v, x = .ref a ∧ DGet H a y (some v) ∧ Q v H) ?_ q
  intro L io H S x y a b d S' Q sr ra rb e q
  unfold dgetD at e
  cases h1 : asD S a with
  | none => rw [h1] at e; cases e
  | some l =>
    rw [h1] at e
    simp only [Option.bind_some] at e
    cases h2 : keyD b with
    | none => rw [h2] at e; cases e
    | some k =>
      rw [h2] at e
      obtain ⟨z, h3, h4⟩ := map_ok e
      cases h4
      obtain ⟨p, kvs, rfl, e1, e2⟩ := asD_x sr ra h1
      obtain ⟨v, e3, e4⟩ := (e2.val k).1 _ h3
      refine ⟨p, v, rfl, ?_, q _ H L io (Stp.refl ..) sr e4⟩
      rw [keyD_ok (rb.vr (by cases b <;> first | rfl | cases h2)) h2, ← e3]
      exact .inl ⟨kvs, k, e1, rfl, rfl⟩
end
def kStrM (h : Sto → Str → List Dv → Option (Dv × Sto)) (fa : DA) (e : Env) (d : Dv) (S : Sto) : Res Dv := match d with
  | .str z => bnd (fa e S) fun as S2 => ofO (h S2 z as)
  | _ => .no
def eStrM (h : Sto → Str → List Dv → Option (Dv × Sto)) (f : DE) (fa : DA) : DE := fun e S => bnd (f e S) (kStrM h fa e)
theorem vrs_strs {K : PySem.W.Frag} {L : Addr → Prop} {io : List Addr} {H : Hp} : ∀ l : List Str, VRs K L io H (l.map V.str) (l.map Dv.str)
  | [] => .nil
  | x :: l => .cons (.str x) (vrs_strs l)
def insD (l as : List Dv) : Option (List Dv × Dv) := match as with
  | [.int i, d] => if l.length < sizeLine ∧ 0 ≤ i ∧ i < 2 ^ 63 then some (l.take i.toNat ++ [d] ++ l.drop i.toNat, .non) else none
  | _ => none
theorem owns_ins {K : PySem.W.Frag} : OwnS K (fun x vs H Q => ∃ (l : Addr) (xs : List V) (i : Int) (y : V), x = .ref l ∧ vs = [.int i, y] ∧ H l = some (.lst xs) ∧ xs.length < sizeLine ∧ 0 ≤ i ∧ i < 2 ^ 63 ∧
    Q .non (upd H l (.lst (xs.take i.toNat ++ [y] ++ xs.drop i.toNat)))) insD := by
  intro L io H S p xs l vs as l' d Q sr hp lp rx ra hh q
  cases ra with
  | nil => cases hh
  | cons r t =>
    cases t with
    | nil => simp [insD] at hh
    | cons r2 t2 =>
      cases t2 with
      | cons => simp [insD] at hh
      | nil =>
        cases r with
        | int i =>
          simp only [insD] at hh
          split at hh
          · rename_i hl
            cases hh
            exact ⟨p, xs, i, _, rfl, rfl, hp, by rw [rx.len]; exact hl.1, hl.2.1, hl.2.2, q _ _ (((rx.take _).app (.cons r2 .nil)).app (rx.drop _)) .non⟩
          · cases hh
        | _ => cases hh
/-- len(found), found the slot's own -/
def eLenO (i : Nat) : DE := fun e S => match e[i]? with
  | some (.own (.lst l)) => .ok (.int l.length) S
  | _ => .no
/-- what is a slot's own becomes a handle's -/
def sHdl (i : Nat) : DS := fun e S => match e[i]? with
  | some (.own o) => .nx (e.set i (.va (.hdl S.length))) (S ++ [o])
  | _ => .no
end DL
namespace DL
open PySem L2
def insOf (S : Sto) : Dv → Option (Str × List (Str × Dv))
  | .obj c fs => some (c, fs)
  | .hdl k => match S[k]? with
    | some (.ins c fs) => some (c, fs)
    | _ => none
  | _ => none
section
variable {K : PySem.W.Frag} {L L' : Addr → Prop} {io io' : List Addr} {H H' : Hp} {S : Sto}
theorem insOf_ok {v : V} {d : Dv} {c : Str} {fs : List (Str × Dv)} (s : SR K L io H S) (r : VR K L io H v d) (h : insOf S d = some (c, fs)) : ∃ a dx vs, v = .ref a ∧ H a = some (.ins (He.ga K c) dx vs) ∧ PairR (VR K L io H) vs fs := by
  cases r with
  | obj nl e t => cases h; exact ⟨_, _, _, rfl, e, of_vrf t⟩
  | hdl hk =>
    rename_i a k
    cases q : S[k]? with
    | none => simp [insOf, q] at h
    | some o =>
      cases o with
      | ins c' l' =>
        simp [insOf, q] at h
        obtain ⟨rfl, rfl⟩ := h
        obtain ⟨dx, vs, e, t⟩ := s.obj k a _ hk q
        exact ⟨a, dx, vs, rfl, e, t⟩
      | _ => simp [insOf, q] at h
  | _ => cases h
theorem PairR.look {R : V → Dv → Prop} (f : Str) : ∀ {vs : List (Str × V)} {fs : List (Str × Dv)}, PairR R vs fs → (∀ d, fs.lookup f = some d → ∃ v, vs.lookup f = some v ∧ R v d) ∧ (fs.lookup f = none → vs.lookup f = none)
  | [], _, .nil => ⟨fun d h => (by simp at h), fun _ => rfl⟩
  | (k1, v) :: vs, (k2, d) :: fs, .cons ⟨h1, h2⟩ t => by
    cases (show k1 = k2 from h1)
    have ih := PairR.look f t
    rw [List.lookup_cons, List.lookup_cons]
    cases e : f == k1 with
    | true => exact ⟨fun d' h => (by cases h; exact ⟨v, rfl, h2⟩), fun h => (by cases h)⟩
    | false => exact ih
def putFD (f : Str) (d : Dv) : List (Str × Dv) → List (Str × Dv)
  | [] => [(f, d)]
  | (g, x) :: r => if g = f then (g, d) :: r else (g, x) :: putFD f d r
theorem PairR.putF {R : V → Dv → Prop} {f : Str} {v : V} {d : Dv} (h : R v d) : ∀ {vs : List (Str × V)} {fs : List (Str × Dv)}, PairR R vs fs → PairR R (L2.putF f v vs) (putFD f d fs)
  | [], _, .nil => .cons ⟨rfl, h⟩ .nil
  | (k1, w) :: vs, (k2, x) :: fs, .cons ⟨h1, h2⟩ t => by
    cases (show k1 = k2 from h1)
    unfold L2.putF putFD
    by_cases e : k1 = f
    · rw [if_pos e, if_pos e]; exact .cons ⟨rfl, h⟩ t
    · rw [if_neg e, if_neg e]; exact .cons ⟨rfl, h2⟩ (PairR.putF h t)
theorem PairR.size {R : V → Dv → Prop} : ∀ {vs : List (Str × V)} {fs : List (Str × Dv)}, PairR R vs fs → vs.length = fs.length
  | [], _, .nil => rfl
  | _ :: vs, _ :: fs, .cons _ t => by rw [List.length_cons, List.length_cons, PairR.size t]
end
/-- o.f -/
def kFld (c f : Str) (d : Dv) (S : Sto) : Res Dv := match insOf S d with
  | some (c', fs) => if c' = c then (match fs.lookup f with
    | some x => .ok x S
    | none => .no) else .no
  | none => .no
def eFld (c f : Str) (fo : DE) : DE := fun e S => bnd (fo e S) (kFld c f)
/-- what the text says of a field of a class -/
structure Fl (K : PySem.W.Frag) (c f : Str) : Prop where
  kc : Cls K (He.ga K c)
  kn : NoAttr K (He.ga K c) f
section
variable {X : Cx} {W : WX} {pos pos' : Pos} {o a : Expr} {f c : Str} {fo fv : DE}
theorem qe_fld (hf : Fl X.K c f) (h : QE X W o fo) (hb : attributeBase o f X.env (eval o X.env) = eval o X.env := by rfl) : QE X W (.Attribute o f pos) (eFld c f fo) := pe_imp (pe_fld h hb) fun g H Q q => by
  refine Rdg.bind (R := VR X.K) (k := fun _ => kFld c f) q fun L0 io0 H0 L io H1 e S d v fr rv q1 => ?_
  replace q := q1
  unfold kFld at q
  cases h1 : insOf S d with
  | none => rw [h1] at q; exact q.elim
  | some z =>
    obtain ⟨c', fs⟩ := z
    rw [h1] at q
    simp only at q
    split at q
    · rename_i hc
      subst hc
      obtain ⟨p, dx, vs, rfl, e1, e2⟩ := insOf_ok fr.st rv h1
      cases h2 : fs.lookup f with
      | none => rw [h2] at q; exact q.elim
      | some x =>
        rw [h2] at q
        obtain ⟨v, e3, e4⟩ := (e2.look f).1 x h2
        exact ⟨p, _, dx, vs, v, rfl, e1, hf.kc, hf.kn, e3, q.ok1 fr.st e4⟩
    · exact q.elim
/-- o.f = v, o a handle -/
def setF (c f : Str) (S : Sto) (o v : Dv) : Option Sto := match o with
  | .hdl k => match S[k]? with
    | some (.ins c' fs) => if c' = c ∧ fs.length < 1000 then some (S.set k (.ins c' (putFD f v fs))) else none
    | _ => none
  | _ => none
def sFldH (c f : Str) (fo fv : DE) : DS := sBind fv fun e v S => sBind fo (fun e o S2 => match setF c f S2 o v with
  | some S3 => .nx e S3
  | none => .no) e S
theorem qs_fld (hf : Fl X.K c f) (ho : QE X W o fo) (hv : QE X W a fv) (hs : swapsWith a (some (.Attribute o f pos')) pos.line X.env = pure false := by rfl) : QS X W (.Assign [.Attribute o f pos'] a pos) (sFldH c f fo fv) := ps_imp (ps_fld ho hv hs) fun D g H h => by
  refine rds_bind (R := VR X.K) (k := fun e v S => sBind fo (fun e o S2 => match setF c f S2 o v with
    | some S3 => .nx e S3
    | none => .no) e S) h fun L0 io0 H0 L io H1 e S dv v fr rv q => ?_
  refine outR.bind (R := VR X.K) (k := fun e o S2 => match setF c f S2 o dv with
    | some S3 => .nx e S3
    | none => .no) fr q fun M2 io2 H2 S2 d y s2 fr2 ro q1 => ?_
  replace q := q1
  cases d with
  | hdl k =>
    simp only [setF] at q
    cases h1 : S2[k]? with
    | none => rw [h1] at q; exact q.elim
    | some ob =>
      cases ob with
      | ins c' fs =>
        rw [h1] at q
        simp only at q
        split at q
        · rename_i S3 hz
          split at hz
          · rename_i hc
            cases hz
            obtain ⟨hc, hl⟩ := hc
            subst hc
            cases ro with
            | hdl hk =>
              rename_i p
              obtain ⟨dx, vs, e1, e2⟩ := fr2.st.obj k p _ hk h1
              have lp : M2 p := fr2.st.sub p (List.mem_of_getElem? hk)
              refine ⟨p, _, dx, vs, rfl, e1, hf.kc, hf.kn, by rw [e2.size]; exact hl, ?_⟩
              have st : Stp M2 io2 H2 M2 io2 (upd H2 p (.ins (He.ga X.K c') dx (putF f v vs))) := Stp.mutH (List.mem_of_getElem? hk)
              have sr := fr2.st.setH (ob := .ins c' (putFD f dv fs)) (o := .ins (He.ga X.K c') dx (putF f v vs)) hk ⟨dx, _, upd_same, (PairR.putF (rv.step s2 fr.st.sub) e2).mono fun v d r => r.mut lp⟩
              exact q g _ M2 io2 (st.stw fr2.st.sub) (fr2.step st sr)
          · cases hz
        · exact q.elim
      | _ => rw [h1] at q; exact q.elim
  | _ => exact q.elim
end
/-- the method m of the class c answers as g, the data dl behind the arguments of the call -/
def FM (P : Program) (w : World) (K : PySem.W.Frag) (mg : Str → Option Value) (base : Heap) (k : Nat) (c m : Str) (dl : List Dv) (g : DF) : Prop :=
  ∃ (f : Addr) (fd : FuncData) (ps : List Str) (ds : List Value) (dvs : List V), FnG P w K mg base k f fd ps (spD K g) ∧ Cls K (He.ga K c) ∧ Meth K (He.ga K c) m f ∧ Binds K fd ps ds ∧ Vals dvs ds ∧ ∀ L io H, VRs K L io H dvs dl
def kMeth (c m : Str) (dl : List Dv) (g : DF) (fa : DA) (e : Env) (d : Dv) (S : Sto) : Res Dv := match insOf S d with
  | some (c', fs) => if c' = c ∧ (fs.lookup m).isNone = true then bnd (fa e S) fun as S2 => g S2 (d :: (as ++ dl)) else .no
  | none => .no
def eMeth (c m : Str) (dl : List Dv) (g : DF) (fo : DE) (fa : DA) : DE := fun e S => bnd (fo e S) (kMeth c m dl g fa e)
section
variable {X : Cx} {W : WX} {apos pos : Pos} {o e : Expr} {es : List Expr} {m c : Str} {fo : DE} {fa : DA} {dl : List Dv} {g : DF} {k : Nat} {pl : Sem Bool}
/-- what a method's call asks, behind the object -/
def tMG (C : Addr) (m : Str) (sp : Sp) (dvs : List V) (W : WX) (ta : TE) (t : TA) : TE := fun σ H Q => ta σ H fun x H1 => ∃ a dx fs, x = .ref a ∧ H1 a = some (.ins C dx fs) ∧ fs.lookup m = none ∧
  t σ H1 fun vs H2 => sp (x :: (vs ++ dvs)) H2 Q (fun c d H' => W c d σ H')
theorem rd_meth {dvs : List V} (hd : ∀ L io H, VRs X.K L io H dvs dl) {st : St} {H : Hp} {Q : VK} (q : rd X.K W (eMeth c m dl g fo fa) st H Q) : tMG (He.ga X.K c) m (spD X.K g) dvs W (rd X.K W fo) (rda X.K W fa) st H Q := by
  refine Rdg.bind (R := VR X.K) (k := kMeth c m dl g fa) q fun L0 io0 H0 L io H1 e S d v fr rv q1 => ?_
  replace q := q1
  unfold kMeth at q
  cases h1 : insOf S d with
  | none => rw [h1] at q; exact q.elim
  | some z =>
    obtain ⟨c', fs⟩ := z
    rw [h1] at q
    simp only at q
    split at q
    · rename_i hc
      obtain ⟨hc, hl⟩ := hc
      subst hc
      obtain ⟨p, dx, vs, rfl, e1, e2⟩ := insOf_ok fr.st rv h1
      refine ⟨p, dx, vs, rfl, e1, (e2.look m).2 (Option.isNone_iff_eq_none.mp hl), ?_⟩
      refine Fin.bind (R := VRs X.K) (k := fun as S2 => g S2 (d :: (as ++ dl))) fr q fun L2 io2 H2 S2 as ws s2 fr2 r2 q => ?_
      exact spD_fin fr2.st (.cons (rv.step s2 fr.st.sub) (r2.app (hd _ _ _))) q
    · exact q.elim
theorem qe_meth (F : FM X.prog X.w X.K X.mg X.base k c m dl g) (hr : RoomG (k + 1) X.A) (tk : Takes X W) (ho : QE X W o fo) (ha : QA X W (e :: es) fa)
    (hst : starEach (e :: es) X.env = (false, eval e X.env) :: starEach es X.env := by rfl) (hpl : (backTo pos (starEach es X.env)).any (·.1) = false := by rfl)
    (ht : eval (.Call (.Attribute o m apos) (e :: es) [] pos) X.env = (do
      let ov ← eval o X.env
      standAt apos.atName
      let (f, first) ← holding [ov] (getMethod ov m pl)
      callWith pos f first (backTo pos (starEach (e :: es) X.env)) (backToKw pos (keywordEach [] X.env))) := by rfl) : QE X W (.Call (.Attribute o m apos) (e :: es) [] pos) (eMeth c m dl g fo fa) := by
  obtain ⟨f, fd, ps, ds, dvs, F, hc, hm, hb, hv, hd⟩ := F
  refine ⟨fun pins s st H Q I q => PySem.W.methodCall_KW (pl := pl) (thn (ho.run pins s st H _ I (rd_meth hd q)) fun u s1 z => ?_) ht⟩
  obtain ⟨x, H1, I1, rx, a, dx, fs, rfl, ea, l, z⟩ := z
  cases (show u = Value.ref a from rx)
  refine getmeth_ok I1 ea hc hm l (PySem.W.callWith_K (first := [.ref a]) (h₀ := X.base) I.ok.mod.kin hm.kp (thn (ha.run pos pins s1 st H1 _ I1 z) ?_) hst hpl)
  rintro us s2 ⟨vs, H2, I2, r, z⟩
  exact ⟨I2.kIn, run_g (us := .ref a :: us) (vs := .ref a :: vs) F hr.low hb hv tk I2 (.cons rfl r) z⟩
theorem qe_meth0 (F : FM X.prog X.w X.K X.mg X.base k c m dl g) (hr : RoomG (k + 1) X.A) (tk : Takes X W) (ho : QE X W o fo)
    (ht : eval (.Call (.Attribute o m apos) [] [] pos) X.env = (do
      let ov ← eval o X.env
      standAt apos.atName
      let (f, first) ← holding [ov] (getMethod ov m pl)
      callWith pos f first (backTo pos (starEach [] X.env)) (backToKw pos (keywordEach [] X.env))) := by rfl) : QE X W (.Call (.Attribute o m apos) [] [] pos) (eMeth c m dl g fo aNil) := by
  obtain ⟨f, fd, ps, ds, dvs, F, hc, hm, hb, hv, hd⟩ := F
  refine ⟨fun pins s st H Q I q => PySem.W.methodCall_KW (pl := pl) (thn (ho.run pins s st H _ I (rd_meth hd q)) fun u s1 z => ?_) ht⟩
  obtain ⟨x, H1, I1, rx, a, dx, fs, rfl, ea, l, z⟩ := z
  cases (show u = Value.ref a from rx)
  have z' : spD X.K g (.ref a :: ([] ++ dvs)) H1 Q (fun c d H' => W c d st H') := by
    obtain ⟨L0, io0, H0, L, io, e, S, fr, z⟩ := z
    exact z [] H1 L io (Stp.refl ..) fr.st .nil
  exact getmeth_ok I1 ea hc hm l (PySem.W.callWith_K0 (first := [.ref a]) I1.kIn hm.kp (run_g (us := [.ref a]) (vs := [.ref a]) F hr.low hb hv tk I1 (.cons rfl .nil) z'))
end
mutual
def noH : Dv → Bool
  | .tup l => noHs l
  | .lst l => noHs l
  | .rol l => noHs l
  | .dic l => noHp l
  | .obj _ fs => noHf fs
  | .hdl _ => false
  | _ => true
def noHs : List Dv → Bool
  | [] => true
  | d :: l => noH d && noHs l
def noHp : List (Key × Dv) → Bool
  | [] => true
  | (_, d) :: l => noH d && noHp l
def noHf : List (Str × Dv) → Bool
  | [] => true
  | (_, d) :: l => noH d && noHf l
end
section
variable {K : PySem.W.Frag} {L L' : Addr → Prop} {io io' : List Addr} {H H' : Hp}
theorem VR.noh (hl : ∀ a o, H a = some o → ¬ L a → H' a = some o ∧ ¬ L' a) : ∀ {v : V} {d : Dv}, VR K L io H v d → noH d = true → VR K L' io' H' v d := by
  intro v d h
  refine VR.rec (motive_1 := fun v d _ => noH d = true → VR K L' io' H' v d) (motive_2 := fun vs ds _ => noHs ds = true → VRs K L' io' H' vs ds) (motive_3 := fun vs ds _ => noHp ds = true → VRp K L' io' H' vs ds) (motive_4 := fun vs ds _ => noHf ds = true → VRf K L' io' H' vs ds) ?_ ?_ ?_ ?_ ?_ ?_ ?_ ?_ ?_ ?_ ?_ ?_ ?_ ?_ ?_ ?_ ?_ ?_ ?_ ?_ h
  · exact fun _ => .non
  · exact fun b _ => .bl b
  · exact fun i _ => .int i
  · exact fun x _ => .str x
  · intro a xs ds nl e _ ih n
    exact .tup (hl a _ e nl).2 (hl a _ e nl).1 (ih (by simpa [noH] using n))
  · exact fun h _ ih n => .tupK h (ih (by simpa [noH] using n))
  · intro a xs ds nl e _ ih n
    exact .lst (hl a _ e nl).2 (hl a _ e nl).1 (ih (by simpa [noH] using n))
  · intro a xs ds nl r _ ih n
    obtain ⟨o, e⟩ := rd_some r
    exact .rol (hl a o e nl).2 (rd_keep r fun o e => (hl a o e nl).1) (ih (by simpa [noH] using n))
  · exact fun h _ ih n => .rolK h (ih (by simpa [noH] using n))
  · intro a xs ds nl r _ ih n
    obtain ⟨o, e⟩ := rd_some r
    exact .dic (hl a o e nl).2 (rd_keep r fun o e => (hl a o e nl).1) (ih (by simpa [noH] using n))
  · intro a dx c vs fs nl e _ ih n
    exact .obj (hl a _ e nl).2 (hl a _ e nl).1 (ih (by simpa [noH] using n))
  · exact fun h n => by simp [noH] at n
  · exact fun x _ => .glo x
  · exact fun n _ => .ty n
  · exact fun _ => .nil
  · exact fun _ _ h1 h2 n => by
      simp only [noHs, Bool.and_eq_true] at n
      exact .cons (h1 n.1) (h2 n.2)
  · exact fun _ => .nil
  · exact fun _ _ h1 h2 n => by
      simp only [noHp, Bool.and_eq_true] at n
      exact .cons (h1 n.1) (h2 n.2)
  · exact fun _ => .nil
  · exact fun _ _ h1 h2 n => by
      simp only [noHf, Bool.and_eq_true] at n
      exact .cons (h1 n.1) (h2 n.2)
end
/-- the class c can be made: __init__ answers as g (the new instance first) -/
def FK (P : Program) (w : World) (K : PySem.W.Frag) (mg : Str → Option Value) (base : Heap) (k : Nat) (c : Str) (dl : List Dv) (g : DF) : Prop :=
  ∃ (f : Addr) (fd : FuncData) (ps : List Str) (ds : List Value) (dvs : List V), FnG P w K mg base k f fd ps (spD K g) ∧ mg c = some (.ref (He.ga K c)) ∧ Mk K (He.ga K c) f ∧ Binds K fd ps ds ∧ Vals dvs ds ∧ ∀ L io H, VRs K L io H dvs dl
/-- C(..), an instance that is a handle -/
def kMkH (c : Str) (g : DF) (as : List Dv) (S : Sto) : Res Dv := bnd (g (S ++ [.ins c []]) (.hdl S.length :: as)) fun d S' => match d with
  | .non => .ok (.hdl S.length) S'
  | _ => .no
def eMkH (c : Str) (dl : List Dv) (g : DF) (fa : DA) : DE := fun e S => bnd (fa e S) fun as S1 => kMkH c g (as ++ dl) S1
theorem mkH_spD {K : PySem.W.Frag} {W : WX} {c : Str} {g : DF} {st : St} {L : Addr → Prop} {io : List Addr} {H : Hp} {S : Sto} {vs : List V} {l : List Dv} {Q : VK} (sr : SR K L io H S) (r : VRs K L io H vs l) (q : Fin K W (VR K) st L io H Q (kMkH c g l S)) {x dx : Addr} (hx : H x = none) (hdx : H dx = none) (hn : dx ≠ x) :
    spD K g (.ref x :: vs) (upd (upd H dx (.own x)) x (.ins (He.ga K c) dx [])) (fun v H2 => v = .non ∧ Q (.ref x) H2) (fun c d H' => W c d st H') := by
  have sr1 : SR K L io (upd H dx (.own x)) S := sr.alloc hdx
  have hx1 : upd H dx (.own x) x = none := by rw [upd_ne hn.symm]; exact hx
  have sr2 : SR K (Ly L x) io (upd (upd H dx (.own x)) x (.ins (He.ga K c) dx [])) S := sr1.newV hx1
  have xn : x ∉ io := fun z => sr.dom x (sr.sub x z) hx
  have sr3 := sr2.addO (p := x) (ob := .ins c []) (.inr rfl) xn ⟨dx, [], upd_same, .nil⟩
  have keep : ∀ a o, H a = some o → (upd (upd H dx (.own x)) x (.ins (He.ga K c) dx [])) a = some o := fun a o e => by
    rw [upd_ne (ne_of_none e hx), upd_ne (ne_of_none e hdx)]; exact e
  have st0 : Stp L io H (Ly L x) (io ++ [x]) (upd (upd H dx (.own x)) x (.ins (He.ga K c) dx [])) :=
    ⟨⟨[x], rfl⟩, fun y hy => by
      rcases List.mem_append.mp hy with z | z
      · exact .inl z
      · simp at z; subst z; exact .inr hx, fun a z => z.elim .inl fun z => .inr (by rw [z]; exact hx), fun a o e _ => keep a o e, fun _ h => .inl h⟩
  have rx : ∀ {L' io' H'}, Stp (Ly L x) (io ++ [x]) (upd (upd H dx (.own x)) x (.ins (He.ga K c) dx [])) L' io' H' → VR K L' io' H' (.ref x) (.hdl S.length) := fun s => by
    obtain ⟨m, rfl⟩ := s.pre
    refine .hdl ?_
    rw [← sr.len]
    simp
  refine ⟨Ly L x, io ++ [x], S ++ [.ins c []], .hdl S.length :: l, sr3, .cons (rx (Stp.refl ..)) (r.step st0 sr.sub), ?_⟩
  unfold kMkH at q
  cases hg : g (S ++ [.ins c []]) (.hdl S.length :: l) with
  | no => rw [hg] at q; exact q
  | ex c' fs S' =>
    rw [hg] at q
    exact fun xo H' io' s' sr' rx => q xo H' _ io' (st0.trans s' sr.sub) sr' rx
  | ok d S' =>
    rw [hg] at q
    intro v H' io' s' sr' rv
    cases rv with
    | non => exact ⟨rfl, q (.ref x) H' _ io' (st0.trans s' sr.sub) sr' (rx s')⟩
    | _ => exact q.elim
theorem make_guards {A : Around} {C : Addr} {us : List Value} {kw : List (Str × Value)} : (A.under (.builtin "type.__call__" ⟨.ref C :: us, kw⟩)).guards = A.guards := by
  first
    | rfl
    | (simp [Around.under, Code.guards, pushGuards, Code.isGuard, guardIds])
theorem RoomG.make {k : Nat} {A : Around} (h : RoomG (k + 1) A) (C : Addr) (us : List Value) (kw : List (Str × Value)) : RoomG k (A.under (.builtin "type.__call__" ⟨.ref C :: us, kw⟩)) := ⟨h.r.make C us kw, make_guards.trans h.g⟩
section
variable {X : Cx} {W : WX} {p pos : Pos} {e : Expr} {es : List Expr} {c : Str} {fa : DA} {dl : List Dv} {g : DF} {k : Nat}
/-- C(..) runs: the new instance, then its __init__ -/
theorem run_mk {C f : Addr} {fd : FuncData} {ps : List Str} {sp : Sp} {dvs : List V} {ds : List Value} {pins : List (Addr × Obj)} {st : St} {H : Hp} {s : Shared} {Q : VK} {us : List Value} {vs : List V} (M : Mk X.K C f) (F : FnG X.prog X.w X.K X.mg X.base k f fd ps sp) (hr : RoomG (k + 1) X.A) (hb : Binds X.K fd ps ds) (hd : Vals dvs ds) (tk : Takes X W)
    (I : Inv X pins st H s) (r : Vals vs us)
    (h : ∀ x dx, H x = none → H dx = none → dx ≠ x → sp (.ref x :: (vs ++ dvs)) (upd (upd H dx (.own x)) x (.ins C dx [])) (fun v H2 => v = .non ∧ Q (.ref x) H2) (fun c d H' => W c d st H')) :
    wpAny (model X.prog X.w) X.A (call (.ref C) us) (EP X pins st Q) X.xe s := by
  have n1 := s.heap.objs.size
  have z := h (s.heap.objs.size + 1) s.heap.objs.size (I.hok.fresh (Nat.le_succ _)) (I.hok.fresh (Nat.le_refl _)) (Nat.ne_of_lt (Nat.lt_succ_self _))
  have J := Inv.made (C := C) I
  have r2 : Vals (V.ref (s.heap.objs.size + 1) :: (vs ++ dvs)) (Value.ref (s.heap.objs.size + 1) :: (us ++ ds)) := .cons rfl (r.append hd)
  have hl := (F.len _ _ _ _ z).symm.trans r2.length
  refine wpAny_call (make_map (f := f) I.kIn M.makes M.init (beq_iff_eq.mp M.fn) (codeAny_mono (F.run _ X.stack _ _ ⟨_, []⟩ _ _ _ _ (hr.make C us []) (J.env0.make C us []) (hb _ (Value.ref (s.heap.objs.size + 1) :: us) J.kIn hl.symm) r2 z) fun rr s' q => ?_))
  match rr, q with
  | .error e, q => exact tk e s' (XE.of_call J (fun _ _ _ q => q) q)
  | .ok .next, q => exact q.elim
  | .ok .brk, q => exact q.elim
  | .ok .cont, q => exact q.elim
  | .ok (.ret u), q =>
    obtain ⟨v, H', I3, rv, ev, q3⟩ := J.after q
    subst ev
    exact ⟨rv, V.ref (s.heap.objs.size + 1), H', I3, rfl, q3⟩
theorem qe_mkA {kk : List Dv → Sto → Res Dv} (hk : ∀ {st : St} {L : Addr → Prop} {io : List Addr} {H : Hp} {S : Sto} {vs : List V} {l : List Dv} {Q : VK}, SR X.K L io H S → VRs X.K L io H vs l → Fin X.K W (VR X.K) st L io H Q (kk l S) → ∀ {x dx : Addr}, H x = none → H dx = none → dx ≠ x →
      spD X.K g (.ref x :: vs) (upd (upd H dx (.own x)) x (.ins (He.ga X.K c) dx [])) (fun v H2 => v = .non ∧ Q (.ref x) H2) (fun c d H' => W c d st H')) (F : FK X.prog X.w X.K X.mg X.base k c dl g) (hr : RoomG (k + 1) X.A) (tk : Takes X W) (ha : QA X W (e :: es) fa) (hg : Gl X c) (hdb : (c == ("__debug__" : Str)) = false)
    (he : starEach (e :: es) X.env = (false, eval e X.env) :: starEach es X.env) (hpl : (backTo pos (starEach es X.env)).any (·.1) = false) : QE X W (.Call (.Name c p) (e :: es) [] pos) (fun e S => bnd (fa e S) fun as S1 => kk (as ++ dl) S1) := by
  obtain ⟨f, fd, ps, ds, dvs, F, hm, M, hb, hv, hd⟩ := F
  refine ⟨fun pins s st H Q I q => wpAny_Call_Name_kw (ld_glob I hg hm ?_ hdb)⟩
  refine PySem.W.callWith_K (h₀ := X.base) I.ok.mod.kin M.kp (thn (ha.run pos pins s st H _ I ?_) fun us s1 ⟨vs, H1, I1, r, q⟩ => ⟨I1.kIn, run_mk (Q := Q) M F hr hb hv tk I1 r q⟩) he hpl
  exact Rdg.bind (R := VRs X.K) (k := fun _ as S1 => kk (as ++ dl) S1) q fun L0 io0 H0 L io H1 e S as vs fr rv q x dx hx hdx hn => hk fr.st (rv.app (hd _ _ _)) q hx hdx hn
theorem qe_mkH (F : FK X.prog X.w X.K X.mg X.base k c dl g) (hr : RoomG (k + 1) X.A) (tk : Takes X W) (ha : QA X W (e :: es) fa) (hg : Gl X c := by rfl) (hdb : (c == ("__debug__" : Str)) = false := by decide)
    (he : starEach (e :: es) X.env = (false, eval e X.env) :: starEach es X.env := by rfl) (hpl : (backTo pos (starEach es X.env)).any (·.1) = false := by rfl) : QE X W (.Call (.Name c p) (e :: es) [] pos) (eMkH c dl g fa) := qe_mkA mkH_spD F hr tk ha hg hdb he hpl
end
end DL
namespace DL
open PySem L2
structure Dfn where
  ad : PySem.W.Frag → Addr
  name : Str
  qual : Str
  params : Arguments
  body : List Stmt
  scope : Scope
  dfl : List He.Dv := []
  kwd : List (Str × He.Dv) := []
def fnA (K : PySem.W.Frag) (a : Addr) : He.FnW := match K.lookup a with
  | some ⟨_, _, .func fd, _⟩ => some (fd.name, fd.qualname, fd.params, fd.body, fd.scope, fd.globals, fd.closure, fd.builtins)
  | _ => none
def Dfn.val (d : Dfn) : He.FnW := some (d.name, d.qual, d.params, .stmts d.body, d.scope, mainGlobals, [], builtinsNs)
def Dfn.dvs (K : PySem.W.Frag) (d : Dfn) : List V := d.dfl.map (He.Dv.v K)
def Dfn.kws (K : PySem.W.Frag) (d : Dfn) : List (Str × V) := d.kwd.map fun q => (q.1, q.2.v K)
def Dfn.ok (K : PySem.W.Frag) (d : Dfn) : Bool := PySem.W.keepIn K (.ref (d.ad K)) && (match K.lookup (d.ad K) with
  | some ⟨_, _, .func fd, _⟩ => PySem.W.codeIn K fd.code d.qual && (He.dflB K fd.defaults (d.dvs K) && He.kwdB K fd.kwdefaults (d.kws K))
  | _ => false)
theorem Dfn.funD {K : PySem.W.Frag} {d : Dfn} (e : fnA K (d.ad K) = d.val) (c : d.ok K = true) : ∃ fd, FunD K d.name d.qual d.params d.body d.scope (d.dvs K) (d.kws K) (d.ad K) fd := by
  obtain ⟨kp, c2⟩ := He.ba c
  unfold fnA at e
  cases q : K.lookup (d.ad K) with
  | none =>
    rw [q] at c2
    cases c2
  | some o =>
    obtain ⟨oc, od, dt, osl⟩ := o
    rw [q] at c2 e
    cases dt with
    | func fd =>
      obtain ⟨n1, n2, n3, n4, n5, n6, n7, n8, n9, n10, n11, n12, n13, n14, n15⟩ := fd
      have e2 : (some (n1, n2, n3, n4, n5, n6, n7, n15) : He.FnW) = some (d.name, d.qual, d.params, .stmts d.body, d.scope, mainGlobals, [], builtinsNs) := e
      simp only [Option.some.injEq, Prod.mk.injEq] at e2
      obtain ⟨h1, h2, h3, h4, h5, h6, h7, h8⟩ := e2
      subst h1 h2 h3 h4 h5 h6 h7 h8
      have c3 : (PySem.W.codeIn K n13 d.qual && (He.dflB K n8 (d.dvs K) && He.kwdB K n9 (d.kws K))) = true := c2
      obtain ⟨k1, k2⟩ := He.ba c3
      obtain ⟨k3, k4⟩ := He.ba k2
      exact ⟨_, ⟨oc, od, n8, n9, n10, n11, n12, n13, n14, osl, rfl, q, k1, He.dflB_ok k3, He.kwdB_ok k4⟩, kp⟩
    | _ => cases c2
abbrev AlN : Type := (Bool × List He.FnW) × List (Option (List (Option (Str × Int))))
def obsN (fa : List Ft) (fn : List Dfn) (ts : List He.Tab) (K : PySem.W.Frag) : AlN := (((fa.all fun f => f.ok K) && fn.all fun d => d.ok K, fn.map fun d => fnA K (d.ad K)), ts.map fun t => He.dicW K (t.1 K))
def valN (fn : List Dfn) (ts : List He.Tab) (w : World) : AlN := ((true, fn.map Dfn.val), ts.map fun t => some (He.keysIn w.params t.2))
def SaysN (fa : List Ft) (fn : List Dfn) (ts : List He.Tab) (w : World) (K : PySem.W.Frag) : Prop := obsN fa fn ts K = valN fn ts w
section
variable {fa : List Ft} {fn : List Dfn} {ts : List He.Tab} {w : World} {K : PySem.W.Frag}
theorem SaysN.fact (c : SaysN fa fn ts w K) (i : Nat) {f : Ft} (h : fa[i]? = some f := by rfl) : f.ok K = true := by
  have c1 := (He.ba (show ((fa.all fun f => f.ok K) && fn.all fun d => d.ok K) = true from congrArg (fun z : AlN => z.1.1) c)).1
  exact List.all_eq_true.mp c1 f (List.mem_of_getElem? h)
theorem SaysN.def_ (c : SaysN fa fn ts w K) (i : Nat) {d : Dfn} (h : fn[i]? = some d := by rfl) : ∃ fd, FunD K d.name d.qual d.params d.body d.scope (d.dvs K) (d.kws K) (d.ad K) fd := by
  have c2 := (He.ba (show ((fa.all fun f => f.ok K) && fn.all fun d => d.ok K) = true from congrArg (fun z : AlN => z.1.1) c)).2
  have e : fn.map (fun d => fnA K (d.ad K)) = fn.map Dfn.val := congrArg (fun z : AlN => z.1.2) c
  have e2 : (fn.map fun d => fnA K (d.ad K))[i]? = (fn.map Dfn.val)[i]? := by rw [e]
  rw [List.getElem?_map, List.getElem?_map, h] at e2
  exact Dfn.funD (Option.some.inj e2) (List.all_eq_true.mp c2 d (List.mem_of_getElem? h))
end
/-- the head's facts of classes -/
def faB (f : He.Fa) : Ft := .any fun K => f.ok K
theorem cls_f {K : PySem.W.Frag} {x : Str} (c : (faB (.cls x)).ok K = true) : Cls K (He.ga K x) := He.cls_ok c
theorem noat_f {K : PySem.W.Frag} {x f : Str} (c : (faB (.noat x f)).ok K = true) : NoAttr K (He.ga K x) f := He.noat_ok c
theorem meth_f {K : PySem.W.Frag} {x f : Str} (c : (faB (.meth x f)).ok K = true) : Meth K (He.ga K x) f (He.ma K (He.ga K x) f) := He.meth_ok c
theorem mkr_f {K : PySem.W.Frag} {x : Str} (c : (faB (.mkr x)).ok K = true) : Mk K (He.ga K x) (He.ma K (He.ga K x) "__init__") := He.mkr_ok c
end DL
namespace DL
open PySem PySem.Spec PyProof.Rows L2
def tabD (l : List (Str × Dv)) (d : Dv) (S : Sto) : Res Dv := match d with
  | .str z => (match l.lookup z with
    | some x => .ok x S
    | none => .no)
  | _ => .no
def eTab (l : List (Str × Dv)) (fi : DE) : DE := fun e S => bnd (fi e S) (tabD l)
def revD (d : Dv) (S : Sto) : Res Dv := match d with
  | .tup l => .ok (.tup l.reverse) S
  | _ => .no
def eRevT (f : DE) : DE := fun e S => bnd (f e S) revD
def idxS (z : Str) : List Dv → Option Nat
  | [] => none
  | .str y :: l => if y = z then some 0 else (idxS z l).map (· + 1)
  | _ => none
def allS : List Dv → Bool
  | [] => true
  | .str _ :: l => allS l
  | _ => false
def tixE (l : List Dv) (x : Dv) (S : Sto) : Res Dv := match x with
  | .str z => if allS l then (match idxS z l with
    | some n => .ok (.int (n : Nat)) S
    | none => .no) else .no
  | _ => .no
end DL
namespace DL
open PySem PySem.Spec PyProof.Rows L2
def eCm (c : Str) (g : DF) (fa : DA) : DE := fun e S => bnd (fa e S) fun l S1 => g S1 (.glo c :: l)
/-- the class c can be made, __init__ answers as g; B: how its arguments are bound -/
def FI (P : Program) (w : World) (K : PySem.W.Frag) (mg : Str → Option Value) (base : Heap) (k : Nat) (c : Str) (B : PySem.W.Frag → Addr → FuncData → List Str → Prop) (g : DF) : Prop :=
  ∃ (f : Addr) (fd : FuncData) (ps : List Str), FnG P w K mg base k f fd ps (spD K g) ∧ mg c = some (.ref (He.ga K c)) ∧ Mk K (He.ga K c) f ∧ B K f fd ps
/-- .. values alone: dl, the data behind them -/
def PoB (K : PySem.W.Frag) (B : PySem.W.Frag → Addr → FuncData → List Str → Prop) (dl : List Dv) : Prop :=
  ∀ f fd ps, B K f fd ps → ∃ (ds : List Value) (dvs : List V), Binds K fd ps ds ∧ Vals dvs ds ∧ ∀ L io H, VRs K L io H dvs dl
theorem FI.fk {P : Program} {w : World} {K : PySem.W.Frag} {mg : Str → Option Value} {base : Heap} {k : Nat} {c : Str} {B : PySem.W.Frag → Addr → FuncData → List Str → Prop} {g : DF} {dl : List Dv} (F : FI P w K mg base k c B g) (b : PoB K B dl) : FK P w K mg base k c dl g := by
  obtain ⟨f, fd, ps, F, hm, M, hB⟩ := F
  obtain ⟨ds, dvs, h1, h2, h3⟩ := b f fd ps hB
  exact ⟨f, fd, ps, ds, dvs, F, hm, M, h1, h2, h3⟩
section
variable {P : Program} {w : World} {K : PySem.W.Frag} {mg : Str → Option Value} {base : Heap} {c m qual : Str} {st : Stmt} {N ps : List Str} {k np n : Nat} {fb : DS}
/-- a def's binding of values alone, no defaults -/
abbrev BindN (m qual : Str) (st : Stmt) (ps : List Str) : Prop := ∀ (kV doc pm : Value) (an : Option Addr) (cdv ct : Value) (us : List Value), us.length = ps.length → bindArgs (PySem.W.fnOf m qual (defArgs st) (defBody st) (defScope st) .none kV doc pm an cdv ct) ⟨us, []⟩ = pure (ps.zip us)
theorem fm_mk {kws : List (Str × V)} (F : ∃ fd, FunD K m qual (defArgs st) (defBody st) (defScope st) [] kws (He.ma K (He.ga K c) m) fd) (hc : Cls K (He.ga K c)) (hm : Meth K (He.ga K c) m (He.ma K (He.ga K c) m)) (Sc : FnScope N ps (defScope st)) (hbi : BindN m qual st ps)
    (hnp : ps.length = np) (hn : N.length = n) (hb : BodyG P w K mg base N qual (defScope st) (He.ma K (He.ga K c) m) (k + 1) (defBody st) fb) : FM P w K mg base (k + 2) c m [] (runF np n fb) := by
  subst hnp hn
  obtain ⟨fd, F⟩ := F
  exact ⟨_, fd, ps, [], [], fn_mk F Sc hb, hc, hm, F.bindsN hbi, .nil, fun _ _ _ => .nil⟩
theorem fm_no {kws : List (Str × V)} (F : ∃ fd, FunD K m qual (defArgs st) (defBody st) (defScope st) [] kws (He.ma K (He.ga K c) m) fd) (hc : Cls K (He.ga K c)) (hm : Meth K (He.ga K c) m (He.ma K (He.ga K c) m)) (hbi : BindN m qual st ps) : FM P w K mg base k c m [] gNo := by
  obtain ⟨fd, F⟩ := F
  exact ⟨_, fd, ps, [], [], FnG.never spD_no, hc, hm, F.bindsN hbi, .nil, fun _ _ _ => .nil⟩
/-- __init__ as the text says it -/
def InB (qual : Str) (st : Stmt) (ps : List Str) (dvs : PySem.W.Frag → List V) (kws : PySem.W.Frag → List (Str × V)) : PySem.W.Frag → Addr → FuncData → List Str → Prop := fun K f fd ps' => ps' = ps ∧ FunD K "__init__" qual (defArgs st) (defBody st) (defScope st) (dvs K) (kws K) f fd
theorem fi_mk {dvs : PySem.W.Frag → List V} {kws : PySem.W.Frag → List (Str × V)} (F : ∃ fd, FunD K "__init__" qual (defArgs st) (defBody st) (defScope st) (dvs K) (kws K) (He.ma K (He.ga K c) "__init__") fd) (hm : mg c = some (.ref (He.ga K c))) (M : Mk K (He.ga K c) (He.ma K (He.ga K c) "__init__")) (Sc : FnScope N ps (defScope st))
    (hnp : ps.length = np) (hn : N.length = n) (hb : BodyG P w K mg base N qual (defScope st) (He.ma K (He.ga K c) "__init__") (k + 1) (defBody st) fb) : FI P w K mg base (k + 2) c (InB qual st ps dvs kws) (runF np n fb) := by
  subst hnp hn
  obtain ⟨fd, F⟩ := F
  exact ⟨_, fd, ps, fn_mk F Sc hb, hm, M, rfl, F⟩
theorem fi_no {dvs : PySem.W.Frag → List V} {kws : PySem.W.Frag → List (Str × V)} (F : ∃ fd, FunD K "__init__" qual (defArgs st) (defBody st) (defScope st) (dvs K) (kws K) (He.ma K (He.ga K c) "__init__") fd) (hm : mg c = some (.ref (He.ga K c))) (M : Mk K (He.ga K c) (He.ma K (He.ga K c) "__init__")) :
    FI P w K mg base k c (InB qual st ps dvs kws) gNo := by
  obtain ⟨fd, F⟩ := F
  exact ⟨_, fd, ps, FnG.never spD_no, hm, M, rfl, F⟩
end
end DL
namespace DL
open PySem PySem.Spec PyProof.Rows L2
section
variable {K : PySem.W.Frag} {L : Addr → Prop} {io : List Addr} {H : Hp}
/-- a list or tuple that no handle holds -/
def asSq : Dv → Option (Bool × List Dv)
  | .lst l => some (true, l)
  | .rol l => some (true, l)
  | .tup l => some (false, l)
  | _ => none
def enumD (l : List Dv) : List Dv := l.mapIdx fun i d => .tup [.int (i : Nat), d]
def zipD (l m : List Dv) : List Dv := (l.zip m).map fun q => .tup [q.1, q.2]
end
def enumR : List Dv → Sto → Res (List Dv)
  | [d], S => match asSq d with
    | some (_, l) => .ok (enumD l) S
    | none => .no
  | _, _ => .no
def zipR : List Dv → Sto → Res (List Dv)
  | [d, d2], S => match asSq d, asSq d2 with
    | some (_, l), some (_, m) => .ok (zipD l m) S
    | _, _ => .no
  | _, _ => .no
def iEnum' (fa : DA) : DL := fun e S => bnd (fa e S) enumR
def iZip' (fa : DA) : DL := fun e S => bnd (fa e S) zipR
end DL
namespace DL
open PySem L2
end DL
namespace DL
open PySem L2
def eChn (h h' : Sto → Dv → Dv → Option (Dv × Sto)) (f1 f2 f3 : DE) : DE := fun e S => bnd (f1 e S) fun a S1 => bnd (f2 e S1) fun b S2 => bnd (ofO (h S2 a b)) fun z S3 => match z with
  | .bl true => bnd (f3 e S3) fun c S4 => ofO (h' S4 b c)
  | .bl false => .ok (.bl false) S3
  | _ => .no
theorem rd_chn {K : PySem.W.Frag} {W : WX} {r r' : R2} {h h' : Sto → Dv → Dv → Option (Dv × Sto)} {f1 f2 f3 : DE} (ho : OpS K r h) (ho' : OpS K r' h') {g : St} {H : Hp} {Q : VK} (q : rd K W (eChn h h' f1 f2 f3) g H Q) : tChain r r' (Rdg K W (VX K) f1) (Rdg K W (VX K) f2) (Rdg K W (VX K) f3) g H Q := by
  unfold eChn at q
  refine Rdg.bind (R := VX K) (k := fun e a S1 => bnd (f2 e S1) fun b S2 => bnd (ofO (h S2 a b)) fun z S3 => match z with
    | .bl true => bnd (f3 e S3) fun c S4 => ofO (h' S4 b c)
    | .bl false => .ok (.bl false) S3
    | _ => .no) q fun L0 io0 H0 L io H1 e S a v fr ra q => ?_
  refine Fin.bind (R := VX K) (k := fun b S2 => bnd (ofO (h S2 a b)) fun z S3 => match z with
    | .bl true => bnd (f3 e S3) fun c S4 => ofO (h' S4 b c)
    | .bl false => .ok (.bl false) S3
    | _ => .no) fr q fun L2 io2 H2 S2 b w s2 fr2 rb q => ?_
  cases hz : h S2 a b with
  | none => rw [hz] at q; exact q.elim
  | some z =>
    obtain ⟨z, S3⟩ := z
    rw [hz] at q
    refine ho L2 io2 H2 S2 v w a b z S3 _ fr2.st (ra.step s2 fr.st.sub) rb hz fun u H3 L3 io3 s3 sr3 r3 => ?_
    cases r3 with
    | bl k =>
      refine ⟨k, rfl, ?_⟩
      have fr3 := fr2.step s3 sr3
      cases k with
      | true =>
        rw [if_pos rfl]
        have q3 := Fin.later (L := L2) (io := io2) (H := H2) q s3 fr2.st.sub
        refine Fin.bind (R := VX K) (k := fun c S4 => ofO (h' S4 b c)) fr3 q3 fun L4 io4 H4 S4 c y s4 fr4 rc q => ?_
        obtain ⟨d, S5, h1, h2⟩ := q.opt
        exact ho' L4 io4 H4 S4 w y b c d S5 Q fr4.st ((rb.step s3 fr2.st.sub).step s4 fr3.st.sub) rc h1 h2
      | false =>
        rw [if_neg Bool.false_ne_true]
        exact q (.bl false) H3 L3 io3 s3 sr3 (.bl false)
    | _ => exact q.elim
section
variable {X : Cx} {W : WX} {pos : Pos} {a b c : Expr} {f1 f2 f3 : DE} {r r' : R2} {h h' : Sto → Dv → Dv → Option (Dv × Sto)} {op op' : CmpOp}
theorem qt_chn (ho : OpR X (compareOp op) r) (hs : OpS X.K r h) (ho' : OpR X (compareOp op') r') (hs' : OpS X.K r' h') (ha : QX X W a f1) (hb : QX X W b f2) (hc : QX X W c f3) (hm : lastMarks [op, op'] [b, c] = false := by with_unfolding_all rfl) :
    QT X W (.Compare a [op, op'] [b, c] pos) (tVal (eChn h h' f1 f2 f3)) := pt_imp (pt_chain ho ho' ha hb hc hm) fun g H Q q => by
  have z := rd_tval q
  exact (show tTest (tChain r r' (Rdg X.K W (VX X.K) f1) (Rdg X.K W (VX X.K) f2) (Rdg X.K W (VX X.K) f3)) g H Q from rd_chn hs hs' z)
theorem os_lt {K : PySem.W.Frag} : OpS K (rI0 fun i j => .bl (decide (i < j))) (pu2 ltD) := ops_int0 fun _ _ _ _ _ => .bl _
theorem os_le {K : PySem.W.Frag} : OpS K (rI0 fun i j => .bl (decide (i ≤ j))) (pu2 leD) := ops_int0 fun _ _ _ _ _ => .bl _
end
def rngK (neg : Bool) (a : Dv) (l : List Dv) (S : Sto) : Res Dv := match a, l with
  | .int i, [.int lo, .int hi] => .ok (.bl (if neg then !decide (lo ≤ i ∧ i < hi) else decide (lo ≤ i ∧ i < hi))) S
  | _, _ => .no
def eRngIn (neg : Bool) (f1 : DE) (fa : DA) : DE := fun e S => bnd (f1 e S) fun a S1 => bnd (fa e S1) fun l S2 => rngK neg a l S2
/-- data as a whole, dicts too -/
def keyP : Key → PyData
  | .inl i => .int i
  | .inr x => .str x
mutual
inductive Dq (K : PySem.W.Frag) (H : Hp) : V → PyData → Prop
  | non : Dq K H .non .none
  | bl (b : Bool) : Dq K H (.bl b) (.bool b)
  | int (i : Int) : Dq K H (.int i) (.int i)
  | str (x : Str) : Dq K H (.str x) (.str x)
  | lst {a : Addr} {xs : List V} {ds : List PyData} : SqL K H a xs → DqAll K H xs ds → Dq K H (.ref a) (.list ds)
  | tup {a : Addr} {xs : List V} {ds : List PyData} : SqT K H a xs → DqAll K H xs ds → Dq K H (.ref a) (.tuple ds)
  | dct {a : Addr} {kvs : List (Key × V)} {ds : List PyData} : Rd H a (.dK kvs) → DqAll K H (kvs.map (·.2)) ds → Dq K H (.ref a) (.dict ((kvs.map fun q => keyP q.1).zip ds))
inductive DqAll (K : PySem.W.Frag) (H : Hp) : List V → List PyData → Prop
  | nil : DqAll K H [] []
  | cons {v : V} {vs : List V} {d : PyData} {ds : List PyData} : Dq K H v d → DqAll K H vs ds → DqAll K H (v :: vs) (d :: ds)
end
theorem DqAll.len {K : PySem.W.Frag} {H : Hp} : ∀ {vs : List V} {ds : List PyData}, DqAll K H vs ds → vs.length = ds.length
  | _, _, .nil => rfl
  | _, _, .cons _ t => by rw [List.length_cons, List.length_cons, t.len]
end DL
namespace DL
open PySem L2
def NewO (K : PySem.W.Frag) (H : Hp) (L' : Addr → Prop) (io' : List Addr) (H' : Hp) (v : V) (o : Ob) : Prop := ∃ p, v = .ref p ∧ H p = none ∧ L' p ∧ p ∉ io' ∧ ObR K L' io' H' p o
abbrev DN := Env → Sto → Res Ob
def FinN (K : PySem.W.Frag) (W : WX) (g : St) (L : Addr → Prop) (io : List Addr) (H : Hp) (Q : V → Hp → Prop) : Res Ob → Prop
  | .ok d S' => ∀ (v : V) (H' : Hp) (L' : Addr → Prop) (io' : List Addr), Stp L io H L' io' H' → SR K L' io' H' S' → NewO K H L' io' H' v d → Q v H'
  | .ex c fs S' => ∀ (x : Option Addr) (H' : Hp) (L' : Addr → Prop) (io' : List Addr), Stp L io H L' io' H' → SR K L' io' H' S' → ExR K L' io' H' x fs → W (.ref (He.ga K c)) x g H'
  | .no => False
def rdN (K : PySem.W.Frag) (W : WX) (f : DN) : TE := fun g H Q => ∃ (L0 : Addr → Prop) (io0 : List Addr) (H0 : Hp) (L : Addr → Prop) (io : List Addr) (e : Env) (S : Sto), FR K L0 io0 H0 L io H g e S ∧ FinN K W g L io H Q (f e S)
abbrev QN (X : Cx) (W : WX) (e : Expr) (f : DN) : Prop := PE X e (rdN X.K W f)
def nL (f : DL) : DN := fun e S => bnd (f e S) fun l S' => .ok (.lst l) S'
def nD (f : DD) : DN := fun e S => bnd (f e S) fun l S' => .ok (.dct l) S'
theorem qn_f {X : Cx} {W : WX} {a : Expr} {f : DL} (h : QF X W a f) : QN X W a (nL f) := pe_imp h fun g H Q q => by
  obtain ⟨L0, io0, H0, L, io, e, S, fr, q⟩ := q
  refine ⟨L0, io0, H0, L, io, e, S, fr, ?_⟩
  unfold nL at q
  cases hf : f e S with
  | ok l S' => rw [hf] at q; exact fun v H' L' io' s sr ⟨p, xs, hv, hp, lp, np, h1, h2⟩ => q v H' L' io' s sr ⟨p, hv, hp, lp, np, xs, h1, h2⟩
  | ex c fs S' => rw [hf] at q; exact q
  | no => rw [hf] at q; exact q
theorem qn_d {X : Cx} {W : WX} {a : Expr} {f : DD} (h : QD X W a f) : QN X W a (nD f) := pe_imp h fun g H Q q => by
  obtain ⟨L0, io0, H0, L, io, e, S, fr, q⟩ := q
  refine ⟨L0, io0, H0, L, io, e, S, fr, ?_⟩
  unfold nD at q
  cases hf : f e S with
  | ok l S' => rw [hf] at q; exact fun v H' L' io' s sr ⟨p, xs, hv, hp, lp, np, h1, h2⟩ => q v H' L' io' s sr ⟨p, hv, hp, lp, np, xs, h1, h2⟩
  | ex c fs S' => rw [hf] at q; exact q
  | no => rw [hf] at q; exact q
/-- frozen at once -/
def eFrzN (f : DN) : DE := fun e S => bnd (f e S) fun o S' => .ok (frzO o) S'
/-- a handle at once -/
def eHdlN (f : DN) : DE := fun e S => bnd (f e S) fun o S' => .ok (.hdl S'.length) (S' ++ [o])
theorem qe_hdlN {X : Cx} {W : WX} {a : Expr} {f : DN} (h : QN X W a f) : QE X W a (eHdlN f) := pe_imp h fun g H Q q => by
  obtain ⟨L0, io0, H0, L, io, e, S, fr, q⟩ := q
  refine ⟨L0, io0, H0, L, io, e, S, fr, ?_⟩
  have q : Fin X.K W (VR X.K) g L io H Q (bnd (f e S) fun o S' => .ok (.hdl S'.length) (S' ++ [o])) := q
  cases hf : f e S with
  | no => rw [hf] at q; exact q
  | ex c fs S' => rw [hf] at q; exact q
  | ok o S' =>
    rw [hf] at q
    rintro v H' L' io' s sr ⟨p, rfl, hp, lp, np, ob⟩
    refine q _ H' L' (io' ++ [p]) ⟨?_, fun x hx => ?_, s.new, s.keep, s.up⟩ (sr.addO lp np ob) (.hdl (by rw [← sr.len]; simp))
    · obtain ⟨m, rfl⟩ := s.pre
      exact ⟨m ++ [p], by simp⟩
    · rcases List.mem_append.mp hx with z | z
      · exact s.hn x z
      · simp at z; subst z; exact .inr hp
theorem FR.setN' {K : PySem.W.Frag} {L0 L L1 : Addr → Prop} {io0 io io1 : List Addr} {H0 H H1 : Hp} {g : St} {e : Env} {S S1 : Sto} (fr : FR K L0 io0 H0 L io H g e S) (s : Stp L io H L1 io1 H1) (sr : SR K L1 io1 H1 S1) {v : V} {o : Ob} (n : NewO K H L1 io1 H1 v o) (i : Nat) :
    FR K L0 io0 H0 L1 io1 H1 (g.set i (some v)) (e.set i (.own o)) S1 := by
  obtain ⟨p, rfl, hp, lp, np, ob⟩ := n
  refine (fr.step s sr).setS i (fun d h => by cases h) (fun l' h => ?_) fun q _ _ hq j hj v1 v2 hg => ?_
  · cases h; exact ⟨p, rfl, lp, np, fr.fresh0 hp, ob⟩
  · cases hq
    by_cases hn : e[j]? = none
    · have := List.getElem?_eq_none_iff.mp hn
      rw [← fr.len] at this
      rw [List.getElem?_eq_none_iff.mpr this] at hg
      cases hg
    · obtain ⟨o, ho, _⟩ := fr.ownAt v1 v2 hn hg
      rw [hp] at ho; cases ho
def sOwnN (i : Nat) (f : DN) : DS := sBind f fun e o S => .nx (e.set i (.own o)) S
section
variable {X : Cx} {W : WX} {pos : Pos} {a b c : Expr} {x y z : Str}
theorem qs_ownN (hN : X.N.Nodup) (i : Nat) {pos' : Pos} {f : DN} (h : QN X W a f) (hi : X.N[i]? = some x := by rfl) (hx : Loc X.env.scope x := by first | exact Or.inl rfl | exact Or.inr rfl) (hs : swapsWith a (some (.Name x pos')) pos.line X.env = pure false := by rfl) (hf : X.fn x = true ∨ X.env.scope.names.lookup x = some .local := by first | exact .inl rfl | exact .inr rfl) :
    QS X W (.Assign [.Name x pos'] a pos) (sOwnN i f) := ps_imp (ps_set hN hi hx h hs hf) fun D g H h => by
  obtain ⟨L0, io0, H0, L, io, e, S, fr, h⟩ := h
  refine ⟨L0, io0, H0, L, io, e, S, fr, ?_⟩
  unfold sOwnN sBind at h
  cases hf : f e S with
  | ok o S1 =>
    rw [hf] at h
    intro v H1 L1 io1 s1 sr1 r1
    exact h _ H1 L1 io1 (s1.stw fr.st.sub) (fr.setN' s1 sr1 r1 i)
  | ex c fs S1 =>
    rw [hf] at h
    exact fun x H' L' io' s sr r => h x g H' L' io' (s.stw fr.st.sub) (fr.step s sr) r
  | no => rw [hf] at h; exact h
abbrev DB := Env → Sto → Res (List Sl)
/-- the own ones stand apart -/
inductive SlsR (K : PySem.W.Frag) (L : Addr → Prop) (io : List Addr) (H : Hp) : Hp → List V → List Sl → Prop
  | nil {Hs : Hp} : SlsR K L io H Hs [] []
  | va {Hs : Hp} {v : V} {d : Dv} {vs : List V} {ss : List Sl} : VR K L io H v d → SlsR K L io H Hs vs ss → SlsR K L io H Hs (v :: vs) (.va d :: ss)
  | own {Hs : Hp} {p : Addr} {o : Ob} {H1 : Hp} {vs : List V} {ss : List Sl} : Hs p = none → L p → p ∉ io → ObR K L io H p o → H1 p ≠ none → (∀ q, H1 q = none → Hs q = none) → SlsR K L io H H1 vs ss → SlsR K L io H Hs (.ref p :: vs) (.own o :: ss)
def bNil : DB := fun _ S => .ok [] S
def bVa (f : DE) (fb : DB) : DB := fun e S => bnd (f e S) fun d S1 => bnd (fb e S1) fun l S2 => .ok (.va d :: l) S2
def bOwn (f : DN) (fb : DB) : DB := fun e S => bnd (f e S) fun o S1 => bnd (fb e S1) fun l S2 => .ok (.own o :: l) S2
theorem SlsR.weaken {K : PySem.W.Frag} {Hs Hs' : Hp} {L : Addr → Prop} {io : List Addr} {H : Hp} (hw : ∀ q, Hs q = none → Hs' q = none) : ∀ {vs : List V} {ss : List Sl}, SlsR K L io H Hs vs ss → SlsR K L io H Hs' vs ss
  | _, _, .nil => .nil
  | _, _, .va r t => .va r (t.weaken hw)
  | _, _, .own h1 h2 h3 h4 h5 h6 t => .own (hw _ h1) h2 h3 h4 h5 (fun q z => hw q (h6 q z)) t
/-- the slots are set, from the left -/
def setSs : List Nat → List Sl → Env → Env
  | i :: is, s :: ss, e => setSs is ss (e.set i s)
  | _, _, e => e
def sParB (is : List Nat) (fb : DB) : DS := sBind fb fun e ss S => if ss.length = is.length then .nx (setSs is ss e) S else .no
theorem SlsR.len {K : PySem.W.Frag} {L : Addr → Prop} {io : List Addr} {H : Hp} : ∀ {Hs : Hp} {vs : List V} {ss : List Sl}, SlsR K L io H Hs vs ss → vs.length = ss.length
  | _, _, _, .nil => rfl
  | _, _, _, .va _ t => by rw [List.length_cons, List.length_cons, t.len]
  | _, _, _, .own _ _ _ _ _ _ t => by rw [List.length_cons, List.length_cons, t.len]
def sSetO (i : Nat) (fi fv : DE) : DS := sBind fv fun e v S1 => match e[i]? with
  | some (.own (.lst l)) => sBind fi (fun e n S3 => match n with
    | .int n => match ixN l.length n with
      | some j => .nx (e.set i (.ow (l.set j v))) S3
      | none => .no
    | _ => .no) e S1
  | _ => .no
end
def listK (l : List Dv) (S : Sto) : Res (List Dv) := match l with
  | [d] => match asQ S d with
    | some l => .ok l S
    | none => .no
  | _ => .no
def fList (fa : DA) : DL := fun e S => bnd (fa e S) listK
def eAny (i : Nat) : DE := fun e S => match e[i]? with
  | some (.own o) => .ok (vwO o) S
  | some (.va d) => .ok d S
  | _ => .no
theorem qx_any {X : Cx} {W : WX} {pos : Pos} (i : Nat) {x : Str} (hN : X.N[i]? = some x := by rfl) (hv : Vis X.env.scope x := by first | exact Or.inl rfl | exact Or.inr (Or.inl rfl) | exact Or.inr (Or.inr rfl)) (hd : (x == ("__debug__" : Str)) = false := by decide)
    (hcd : (x == ("__classdict__" : Str)) = false := by decide) : QX X W (.Name x pos) (eAny i) := pe_imp (pe_var hN hv hd hcd) fun g H Q q => by
  obtain ⟨L0, io0, H0, L, io, e, S, fr, q⟩ := q
  cases h : e[i]? with
  | none => simp only [eAny, h] at q; exact q.elim
  | some sl =>
    cases sl with
    | own o =>
      simp only [eAny, h] at q
      obtain ⟨p, h1, h2, h3, h4, h5⟩ := fr.own i o h
      exact ⟨.ref p, h1, q _ H L io (Stp.refl ..) fr.st (.inr ⟨p, o, rfl, rfl, h3, h5⟩)⟩
    | va d =>
      simp only [eAny, h] at q
      obtain ⟨v, h1, h2⟩ := fr.va i d h
      exact ⟨v, h1, q _ H L io (Stp.refl ..) fr.st (.inl h2)⟩
    | no => simp only [eAny, h] at q; exact q.elim
/-- frozen from now on -/
def sFz (i : Nat) : DS := fun e S => match e[i]? with
  | some (.own o) => .nx (e.set i (.va (frzO o))) S
  | some (.va _) => .nx e S
  | _ => .no
theorem qss_fz {X : Cx} {W : WX} {sts : List Stmt} {f : DS} (i : Nat) (h : QSs X W sts f) : QSs X W sts (sSeq (sFz i) f) := pss_imp h fun D g H h => by
  obtain ⟨L0, io0, H0, L, io, e, S, fr, h⟩ := h
  unfold sSeq sFz at h
  cases q : e[i]? with
  | none => rw [q] at h; exact h.elim
  | some s =>
    cases s with
    | own o =>
      rw [q] at h
      obtain ⟨p, _, fr2, w⟩ := fr.frz q
      exact ⟨L0, io0, H0, Lz L p, io, _, S, fr2, outR.later h w⟩
    | va d =>
      rw [q] at h
      exact ⟨L0, io0, H0, L, io, e, S, fr, h⟩
    | no => rw [q] at h; exact h.elim
end DL
namespace DL
open PySem L2
def prD : Dv → Option (Key × Dv)
  | .tup [k, v] => (keyD k).map fun k' => (k', v)
  | _ => none
def prsD : List Dv → Option (List (Key × Dv))
  | [] => some []
  | d :: l => (prD d).bind fun p => (prsD l).map fun r => p :: r
theorem prsD_ok {K : PySem.W.Frag} {L : Addr → Prop} {io : List Addr} {H : Hp} : ∀ {vs : List V} {l : List Dv} {m : List (Key × Dv)}, VRs K L io H vs l → prsD l = some m → ∃ (ps : List Addr) (kvs : List (Key × V)), vs = ps.map V.ref ∧ Paired (fun p kv => SqT K H p [kV kv.1, kv.2]) ps kvs ∧ PairR (VR K L io H) kvs m
  | _, _, _, .nil, h => by cases h; exact ⟨[], [], rfl, .nil, .nil⟩
  | _, _, m, .cons (d := d) (ds := l) r t, h => by
    simp only [prsD] at h
    cases hd : prD d with
    | none => rw [hd] at h; cases h
    | some p =>
      rw [hd] at h
      obtain ⟨m', h1, rfl⟩ := map_ok h
      obtain ⟨ps, kvs, e1, e2, e3⟩ := prsD_ok t h1
      unfold prD at hd
      split at hd
      · rename_i k v
        obtain ⟨k', h2, rfl⟩ := map_ok hd
        obtain ⟨a, xs, rfl, hs, t2⟩ := r.tupS
        cases t2 with
        | cons rk t3 =>
          cases t3 with
          | cons rv t4 =>
            cases t4
            have ek := keyD_ok rk h2
            subst ek
            exact ⟨a :: ps, (k', _) :: kvs, by rw [e1]; rfl, .cons hs e2, .cons ⟨rfl, rv⟩ e3⟩
      · cases hd
def dictK (l : List Dv) (S : Sto) : Res (List (Key × Dv)) := match l with
  | [d] => (match asL S d with
    | some m => (match prsD m with
      | some kv => .ok (mergeD [] kv) S
      | none => .no)
    | none => .no)
  | _ => .no
def dDict (fa : DA) : DD := fun e S => bnd (fa e S) dictK
theorem FinD.bind {α β : Type} {K : PySem.W.Frag} {W : WX} {R : (Addr → Prop) → List Addr → Hp → β → α → Prop} {f : Env → Sto → Res α} {k : α → Sto → Res (List (Key × Dv))} {g : St} {L0 L : Addr → Prop} {io0 io : List Addr} {H0 H : Hp} {e : Env} {S : Sto} {Q : V → Hp → Prop} {P : β → Hp → Prop}
    (fr : FR K L0 io0 H0 L io H g e S) (h : FinD K W g L io H Q (bnd (f e S) k))
    (n : ∀ (L1 : Addr → Prop) (io1 : List Addr) (H1 : Hp) (S1 : Sto) (a : α) (v : β), Stp L io H L1 io1 H1 → FR K L0 io0 H0 L1 io1 H1 g e S1 → R L1 io1 H1 v a → FinD K W g L1 io1 H1 Q (k a S1) → P v H1) : Rdg K W R f g H P := by
  refine ⟨L0, io0, H0, L, io, e, S, fr, ?_⟩
  cases hf : f e S with
  | ok a S1 =>
    rw [hf] at h
    intro v H1 L1 io1 s1 sr1 r1
    exact n L1 io1 H1 S1 a v s1 (fr.step s1 sr1) r1 (FinD.later (r := k a S1) h s1 fr.st.sub sr1)
  | ex c fs S1 => rw [hf] at h; exact h
  | no => rw [hf] at h; exact h
theorem qd_dict {X : Cx} {W : WX} {p pos : Pos} {a : Expr} {fa : DA} (hm : X.mg "dict" = none) (ha : QXs X W [a] fa) (hc : X.calm = true := by rfl) (hg : Gl X "dict" := by rfl) (he : starEach [a] X.env = (false, eval a X.env) :: starEach [] X.env := by rfl) : QD X W (.Call (.Name "dict" p) [a] [] pos) (dDict fa) :=
  pe_imp (pe_callTy (call_dictP hc) hg hm (by decide +kernel) ha (by decide) (by decide) he (by rfl)) fun g H Q q => by
  obtain ⟨L0, io0, H0, L, io, e, S, fr, q⟩ := q
  refine FinD.bind (R := VXs X.K) (k := dictK) fr q fun L1 io1 H1 S1 l vs s1 fr1 rvs q => ?_
  unfold dictK at q
  split at q
  · rename_i d
    cases h : asL S1 d with
    | none => rw [h] at q; exact q.elim
    | some m =>
      rw [h] at q
      simp only at q
      cases h2 : prsD m with
      | none => rw [h2] at q; exact q.elim
      | some kv =>
        rw [h2] at q
        cases rvs with
        | cons r t =>
          cases t
          obtain ⟨a, xs, rfl, hs, t⟩ := asL_x fr1.st r h
          obtain ⟨ps, kvs, e1, e2, e3⟩ := prsD_ok t h2
          subst e1
          refine ⟨a, ps, kvs, rfl, hs, e2, fun p hp => ?_⟩
          exact q _ _ (Ly L1 p) io1 (Stp.newV hp) (fr1.st.newV hp) ⟨p, _, rfl, hp, .inr rfl, fun z => fr1.st.dom p (fr1.st.sub p z) hp, upd_same, (PairR.merge e3 .nil).mono fun v d r => r.step (Stp.newV hp) fr1.st.sub⟩
  · exact q.elim
end DL
namespace TX
open PySem PySem.Spec PyProof.Rows L2
def keyS (e : Int × Value) : Str := match e.2 with | .str k _ => k | _ => Str.empty
def GoodS (P : Program) (w : World) (e : Int × Value) : Prop := ∃ k tk, e.2 = Value.str k tk ∧ e.1 = (strKind P w).hash k
/-- the set of texts at a: S its members, n their number -/
def TxR (P : Program) (w : World) (h : Heap) (a : Addr) (S : Str → Bool) (n : Nat) : Prop :=
  ∃ o es ep t, h.get? a = some o ∧ o.ExactSet ∧ o.data = .set es ep t ∧ (∀ e ∈ es.toList, GoodS P w e) ∧ (es.toList.map keyS).Nodup ∧ (∀ k, S k = true ↔ k ∈ es.toList.map keyS) ∧
    es.size < scanBound ∧ t.fits es.size = true ∧ es.size = n ∧ Ris t.place.toList ∧ (w.params.followText "set-order" = true ∨ t.led = true)
section
variable {P : Program} {w : World} {h h' : Heap} {a : Addr} {S : Str → Bool} {n : Nat}
theorem TxR.at (R : TxR P w h a S n) (k : ∀ o, h.get? a = some o → h'.get? a = some o) : TxR P w h' a S n := by
  obtain ⟨o, es, ep, t, ho, r⟩ := R
  exact ⟨o, es, ep, t, k o ho, r⟩
theorem TxR.lt (R : TxR P w h a S n) : a < h.objs.size := by
  obtain ⟨o, es, ep, t, ho, r⟩ := R
  exact Heap.lt_size ho
theorem TxR.congr {S' : Str → Bool} (R : TxR P w h a S n) (e : ∀ k, S' k = S k) : TxR P w h a S' n := by
  have q : S' = S := funext e
  rw [q]; exact R
theorem goodS_elems {l : List (Int × Value)} (g : ∀ e ∈ l, GoodS P w e) : ElemsOf (strKind P w) l := fun e he => by
  obtain ⟨k, tk, h1, h2⟩ := g e he
  exact ⟨⟨k, by rw [h1]; exact strKind_is P w k tk, h2⟩, by rw [h1] <;> rfl⟩
theorem goodS_is {e : Int × Value} (g : GoodS P w e) (k : Str) : (strKind P w).is k e.2 = true ↔ keyS e = k := by
  obtain ⟨k0, tk, h1, _⟩ := g
  unfold keyS
  rw [h1]
  show ((k0 == k) = true) ↔ k0 = k
  exact beq_iff_eq
theorem goodS_mem {l : List (Int × Value)} (g : ∀ e ∈ l, GoodS P w e) (k : Str) : k ∈ l.map keyS ↔ ∃ e ∈ l, (strKind P w).is k e.2 = true := by
  rw [List.mem_map]
  constructor
  · rintro ⟨e, he, q⟩
    exact ⟨e, he, (goodS_is (g e he) k).2 q⟩
  · rintro ⟨e, he, q⟩
    exact ⟨e, he, (goodS_is (g e he) k).1 q⟩
end
section
variable {P : Program} {w : World} {A : Around} {E : Value → Shared → Prop} {s : Shared} {a : Addr} {S : Str → Bool} {n : Nat}
theorem txStore_at {h : Heap} {a : Addr} {o : Obj} {es es' : Array (Int × Value)} {ep : Nat} {t t' : SetTable} (ho : h.get? a = some o) (hd : o.data = .set es ep t) :
    (h.update a (Obj.putSet es' t')).get? a = some { o with data := .set es' (ep + 1) t' } := by
  have q := Heap.get?_update_self (Obj.putSet es' t') ho (by rw [putSet_of es' t' hd]; rfl)
  rw [putSet_of es' t' hd] at q
  exact q
theorem txR_add_tail {g : Bool → Sem Unit} (hg : ∀ (b : Bool) (s₁ : Shared) (Q' : Unit → Shared → Prop), Q' () s₁ → wpAny (model P w) A (g b) Q' E s₁)
    {o : Obj} {es : Array (Int × Value)} {ep : Nat} {t : SetTable} (ho : s.heap.get? a = some o) (hex : o.ExactSet) (hd : o.data = .set es ep t)
    {es1 : Array (Int × Value)} {t2 : SetTable} {S' : Str → Bool} (g1 : ∀ e ∈ es1.toList, GoodS P w e) (nd1 : (es1.toList.map keyS).Nodup) (m1 : ∀ k, S' k = true ↔ k ∈ es1.toList.map keyS)
    (hb1 : es1.size < scanBound) (hf2 : t2.fits es1.size = true) (hr : Ris t2.place.toList) (hl : w.params.followText "set-order" = true ∨ t2.led = true) {wasDummy : Bool} {R : Option Bool → Shared → Prop}
    (hR : ∀ h', Heap.SameBut a s.heap h' → TxR P w h' a S' es1.size → R (some true) { s with heap := h' }) :
    wpAny (model P w) A (do
        storeSet a es1 t2
        if (!wasDummy && t2.tooFull) = true then do
            g (relayAll t2 es1 (SetTable.grown es1.size)).2.2
            storeSet a (relayAll t2 es1 (SetTable.grown es1.size)).1 (relayAll t2 es1 (SetTable.grown es1.size)).2.1
            pure (some true)
          else pure (some true)) R E s := by
  refine wpAny_bind (wpAny_storeSet_of ho hd ?_ (fits_of_scanBound hb1))
  have ho1 := txStore_at (es' := es1) (t' := t2) ho hd
  have sb1 := Heap.SameBut.update s.heap a (Obj.putSet es1 t2)
  split
  · have pm := relayAll_perm t2 es1 (SetTable.grown es1.size)
    have hf3 := relayAll_fits t2 es1 (SetTable.grown es1.size)
    have hr3 := relayAll_ris t2 es1 (SetTable.grown es1.size)
    have hl3 := relayAll_led t2 es1 (SetTable.grown es1.size)
    generalize relayAll t2 es1 (SetTable.grown es1.size) = Z at pm hf3 hr3 hl3 ⊢
    obtain ⟨es2, t3, gave⟩ := Z
    dsimp only at pm hf3 hr3 hl3 ⊢
    have hsz : es2.size = es1.size := by rw [← Array.length_toList, pm.length_eq, Array.length_toList]
    have hb2 : es2.size < scanBound := by rw [hsz]; exact hb1
    refine wpAny_bind (hg _ _ _ ?_)
    refine wpAny_bind (wpAny_storeSet_of ho1 rfl ?_ (fits_of_scanBound hb2))
    have ho2 := txStore_at (es' := es2) (t' := t3) ho1 rfl
    refine wpAny_pure (hR _ (sb1.trans (Heap.SameBut.update _ a _)) ?_)
    exact ⟨_, es2, _, t3, ho2, hex, rfl, fun e he => g1 e (pm.mem_iff.mp he), (pm.map keyS).nodup_iff.mpr nd1, fun k => (m1 k).trans (pm.map keyS).mem_iff.symm, hb2, hf3, hsz, hr3,
      hl.imp id fun z => by rw [hl3]; exact z⟩
  · exact wpAny_pure (hR _ sb1 ⟨_, es1, _, t2, ho1, hex, rfl, g1, nd1, m1, hb1, hf2, rfl, hr, hl⟩)
theorem txR_add_hashed {k : Str} {tk : Tok} {Q : Bool → Shared → Prop} (R : TxR P w s.heap a S n) (room : n + 1 < scanBound)
    (hQ : ∀ h', Heap.SameBut a s.heap h' → TxR P w h' a (fun j => S j || decide (j = k)) (if S k = true then n else n + 1) → Q (!S k) { s with heap := h' }) :
    wpAny (model P w) A (setAddHashed a (.str k tk) ((strKind P w).hash k)) Q E s := by
  obtain ⟨o, es, ep, t, ho, hex, hd, g, nd, hm, hb, hf, hn, hr, hl⟩ := R
  have hkey : (strKind P w).is k (.str k tk) = true := strKind_is P w k tk
  have hsc : (Value.str k tk).scannable = true := rfl
  have hel : ElemsOf (strKind P w) es.toList := goodS_elems g
  unfold setAddHashed setAddHashedIn
  refine wpAny_holding (wpAny_bind (wpAny_setState_of ho hd hf ?_))
  dsimp only
  rw [byScan_of hsc hb hel]
  simp only [↓reduceIte]
  unfold setAddByScan
  refine wpAny_bind ?_
  refine wpAny_bind (wpAny_rule ?_)
  refine wpAny_bind (wpAny_setScan_of hkey ho hd hf hel ?_)
  cases hfi : List.findIdx? (fun e => (strKind P w).is k e.2) es.toList with
  | some j =>
    dsimp only
    obtain ⟨hj, pj, _⟩ := List.findIdx?_eq_some_iff_getElem.mp hfi
    have hSk : S k = true := (hm k).2 ((goodS_mem (P := P) (w := w) g k).2 ⟨es.toList[j], List.getElem_mem hj, pj⟩)
    refine wpAny_pure (wpAny_pure ?_)
    have q := hQ s.heap (Heap.SameBut.refl a s.heap) ⟨o, es, ep, t, ho, hex, hd, g, nd, fun i => by
      rw [Bool.or_eq_true, decide_eq_true_eq, ← hm i]
      exact ⟨fun z => z.elim id (fun e => e ▸ hSk), .inl⟩, hb, hf, by rw [if_pos hSk]; exact hn, hr, hl⟩
    rw [hSk] at q
    exact q
  | none =>
    dsimp only
    have hnk : k ∉ es.toList.map keyS := fun z => by
      obtain ⟨e, he, q⟩ := (goodS_mem (P := P) (w := w) g k).1 z
      have c := List.findIdx?_eq_none_iff.mp hfi e he
      rw [q] at c
      cases c
    have hSk : S k = false := by
      cases q : S k with
      | false => rfl
      | true => exact absurd ((hm k).1 q) hnk
    have hgw : ∀ (b : Bool) {s₁ : Shared} {Q' : Unit → Shared → Prop}, Q' () s₁ → wpAny (model P w) A (match b with | true => rule "set.scan.the-table-gave-way" | false => pure ()) Q' E s₁ :=
      fun b s₁ Q' q => by cases b <;> first | exact wpAny_pure q | exact wpAny_rule q
    have pm := layNew_perm t es ((strKind P w).hash k) (.str k tk)
    have hf1 := layNew_fits t es ((strKind P w).hash k) (.str k tk)
    have hr1 := layNew_ris t es ((strKind P w).hash k) (.str k tk) hr
    have hl1 := layNew_led t es ((strKind P w).hash k) (.str k tk)
    generalize layNew t es ((strKind P w).hash k) (.str k tk) = Z at pm hf1 hr1 hl1 ⊢
    obtain ⟨es1, t1, wasDummy, gave⟩ := Z
    dsimp only at pm hf1 hr1 hl1 ⊢
    rw [Array.toList_push] at pm
    have pc : es1.toList.Perm (((strKind P w).hash k, Value.str k tk) :: es.toList) := pm.trans (List.perm_append_singleton _ _)
    have pk : (es1.toList.map keyS).Perm (k :: es.toList.map keyS) := pc.map keyS
    have g1 : ∀ e ∈ es1.toList, GoodS P w e := fun e he => by
      rcases List.mem_cons.mp (pc.mem_iff.mp he) with z | z
      · rw [z]; exact ⟨k, tk, rfl, rfl⟩
      · exact g e z
    have nd1 : (es1.toList.map keyS).Nodup := pk.nodup_iff.mpr (List.nodup_cons.mpr ⟨hnk, nd⟩)
    have m1 : ∀ i, (S i || decide (i = k)) = true ↔ i ∈ es1.toList.map keyS := fun i => by
      rw [Bool.or_eq_true, decide_eq_true_eq, hm i, pk.mem_iff, List.mem_cons]
      exact Or.comm
    have hsz : es1.size = n + 1 := by rw [← Array.length_toList, pc.length_eq, List.length_cons, Array.length_toList, hn]
    have hb1 : es1.size < scanBound := by rw [hsz]; exact room
    have hled : w.params.followText "set-order" = true ∨ t1.led = true := hl.imp id fun z => by rw [hl1]; exact z
    have fin : ∀ h', Heap.SameBut a s.heap h' → TxR P w h' a (fun j => S j || decide (j = k)) es1.size → Q true { s with heap := h' } := fun h' sb r => by
      have q := hQ h' sb
      rw [hSk] at q
      rw [hsz] at r
      exact q r
    refine wpAny_bind (hgw _ ?_)
    split
    · refine wpAny_bind ?_
      rw [hashByValue_scannable 8 hsc]
      refine wpAny_pure ?_
      refine txR_add_tail ?_ ho hex hd g1 nd1 m1 hb1 ?_ ?_ ?_ ?_
      · intro b s₁ Q' q; cases b <;> first | exact wpAny_pure q | exact wpAny_rule q
      · first | (split <;> first | exact hf1 | exact SetTable.fits_plain_off hf1) | exact hf1
      · first | (split <;> exact hr1) | exact hr1
      · first | (split <;> exact hled) | exact hled
      · intro h' sb r; dsimp only; exact wpAny_pure (fin h' sb r)
    · refine wpAny_bind (wpAny_pure ?_)
      simp only [↓reduceIte]
      refine txR_add_tail ?_ ho hex hd g1 nd1 m1 hb1 hf1 hr1 hled ?_
      · intro b s₁ Q' q; cases b <;> first | exact wpAny_pure q | exact wpAny_rule q
      · intro h' sb r; dsimp only; exact wpAny_pure (fin h' sb r)
end
theorem txR_new_at {w : World} {h : Heap} {a : Addr} {ns : List Str} (ho : h.get? a = some { cls := .type "set", dict := none, data := .set #[] 0 (.fresh 0 0 (!w.params.followText "set-order")) }) : TxR P w h a (fun j => decide (j ∈ ns.take 0)) 0 :=
  ⟨_, #[], 0, _, ho, ⟨rfl, rfl, rfl⟩, rfl, (fun e he => by simp at he), (by simp), (fun k => by simp), (by decide), (by rfl), rfl, List.Pairwise.nil, by
    show _ ∨ (!w.params.followText "set-order") = true
    cases w.params.followText "set-order"
    · exact .inr rfl
    · exact .inl rfl⟩
section
variable {P : Program} {w : World} {A : Around} {E : Value → Shared → Prop} {s : Shared}
theorem set_update_txts {I : Addr} {fp wr : List Addr} {G : Array GenState → Array GenState → Prop} {n : Nat} {Pv : Nat → Value → Prop} {St : Nat → Shared → Prop} {R : Result → Shared → Prop}
    (W : WalksS P w A.in1 I fp wr G n Pv St) (S : Addr) (hSf : S ∉ fp) (ns : List Str) (hn : n = ns.length) (hb : ns.length + 1 < scanBound) (hval : ∀ i v, Pv i v → ∃ k t, ns[i]? = some k ∧ v = .str k t) :
    ∀ (k i : Nat) (s : Shared), n - i = k → i ≤ n → St i s → (∃ c, c ≤ i ∧ TxR P w s.heap S (fun j => decide (j ∈ ns.take i)) c) →
      (∀ s' c, Moved (S :: wr) G s s' → c ≤ n → TxR P w s'.heap S (fun j => decide (j ∈ ns)) c → R (.ok (.ret .none)) s') →
      codeAny (model P w) A (.builtin "set.update.loop" ⟨[.ref S, .ref I], []⟩) R s := by
  have hSw : S ∉ wr := fun h => hSf (W.sub _ h)
  have hsub : ∀ b ∈ wr, b ∈ S :: wr := fun b hb => List.mem_cons_of_mem _ hb
  intro k
  induction k with
  | zero =>
    intro i s hk' hi hst ⟨c, hc, hS⟩ hR
    have hin : i = n := by omega
    subst hin
    refine codeAny_builtin F.entry_set_update_loop ?_
    rw [Around.under_plainId F.plain_set_update_loop _]
    show wpAny _ A.in1 (pyNext (.ref I) >>= _) _ _ s
    refine wpAny_bind (W.done s _ _ hst fun s' hm => ?_)
    show wpAny _ A.in1 (ret Value.none) _ _ s'
    have e : ns.take i = ns := List.take_of_length_le (by omega)
    rw [e] at hS
    exact wpAny_pure (hR s' c (hm.mono hsub) hc (hS.at fun o e => hm.heap S o hSw e))
  | succ k ih =>
    intro i s hk' hi hst ⟨c, hc, hS⟩ hR
    have hlt : i < n := by omega
    refine codeAny_builtin F.entry_set_update_loop ?_
    rw [Around.under_plainId F.plain_set_update_loop _]
    show wpAny _ A.in1 (pyNext (.ref I) >>= _) _ _ s
    refine wpAny_bind (W.item i s _ _ hlt hst fun v s' hP hst' hm => ?_)
    obtain ⟨z, t, hz, rfl⟩ := hval i v hP
    have hS' : TxR P w s'.heap S (fun j => decide (j ∈ ns.take i)) c := hS.at fun o e => hm.heap S o hSw e
    show wpAny _ A.in1 (holding [Value.str z t] (setAdd S (.str z t)) >>= _) _ _ s'
    refine wpAny_bind (wpAny_holding ?_)
    unfold setAdd
    refine wpAny_holding ?_
    refine wpAny_bind ((strKind P w).pyHash (k := z) (strKind_is _ _ _ _) ?_)
    refine txR_add_hashed (s := { s' with toks := s'.toks + 1 }) hS' (by omega) fun h' hsb hS2 => ?_
    have hS3 : TxR P w h' S (fun j => decide (j ∈ ns.take (i + 1))) (if decide (z ∈ ns.take i) = true then c else c + 1) := hS2.congr fun j => by
      rw [List.take_add_one, hz]
      simp [List.mem_append]
    have hc3 : (if decide (z ∈ ns.take i) = true then c else c + 1) ≤ i + 1 := by
      split <;> omega
    refine wpAny_pure ⟨plainId_quiet F.plain_set_update_loop _, ih (i + 1) _ (by omega) hlt (W.frame _ s' _ _ hst' (Nat.le_succ _) fun b hb o e => ?_) ⟨_, hc3, hS3⟩ fun s'' c2 hm'' hc'' hS'' => ?_⟩
    · rw [hsb.2 b (fun h : b = S => hSf (by rw [← h]; exact hb))]; exact e
    · refine hR s'' c2 (Moved.trans W.gtrans ((hm.mono hsub).then_heap (Nat.le_succ _) fun b o hb e => ?_) hm'') hc'' hS''
      rw [hsb.2 b (fun h : b = S => hb (by rw [h]; exact List.mem_cons_self))]; exact e
theorem call_set_txts {l : Addr} {items : Array Value} (ns : List Str) {Q : Value → Shared → Prop} (hh : A.handled = none) (hl : s.heap.IsList l items) (hit : StrsAre items.toList ns) (hb : ns.length + 1 < scanBound)
    (h : ∀ (h' : Heap) (tk c : Nat), TxR P w h' s.heap.objs.size (fun j => decide (j ∈ ns)) c → c ≤ ns.length → (∀ b o, s.heap.get? b = some o → h'.get? b = some o) → Q (.ref s.heap.objs.size) { s with heap := h', toks := tk }) :
    wpAny (model P w) A (call (.type "set") [.ref l]) Q E s := by
  have hisz : items.size = ns.length := by
    have q := StrsAre.length hit
    rw [Array.length_toList] at q
    exact q
  obtain ⟨c, tl, hmro⟩ := F.called_set.mro
  have hmade := F.called_set.made
  have hsub := F.called_set.sub
  refine wpAny_call (codeAny_of_tree ?_)
  show wpAny _ _ (callAny (.type "set") _) _ _ _
  refine wpAny_pure ⟨Code.quiet_builtin _ (by decide +kernel), codeAny_builtin F.entry_type_call ?_⟩
  rw [Around.under_plain (weight_type_call_type "set" [.ref l] []) rfl]
  have h1 := F.called_set.notType
  have h2 := F.called_set.canCreate
  have hct := F.typeCall_set_1 (.ref l)
  repeat (any_goals (first | assumption | wp_step))

  refine codeAny_mono (code_set_led1 (.ref l) (E := E) (Q₁ := fun obj s₁ => obj = .ref s.heap.objs.size ∧ s₁ = { s with heap := s.heap.push { cls := .type "set", dict := none, data := .set #[] 0 (.fresh 0 0 (!w.params.followText "set-order")) } }) ⟨rfl, rfl⟩) fun r s₁ hr => ?_
  cases r with
  | error e => exact hr
  | ok fl =>
    cases fl with
    | ret obj =>
      obtain ⟨rfl, rfl⟩ := hr
      have hS : (s.heap.push { cls := .type "set", dict := none, data := .set #[] 0 (.fresh 0 0 (!w.params.followText "set-order")) }).get? s.heap.objs.size = some { cls := .type "set", dict := none, data := .set #[] 0 (.fresh 0 0 (!w.params.followText "set-order")) } := Heap.get?_push_size _ rfl
      have hT : Shared.TypeIs { s with heap := s.heap.push { cls := .type "set", dict := none, data := .set #[] 0 (.fresh 0 0 (!w.params.followText "set-order")) } } (.ref s.heap.objs.size) "set" := ⟨_, hS, rfl⟩
      have hli := F.called_set.init.lookup
      have hbi := F.called_set.init.bind (.ref s.heap.objs.size)
      repeat (any_goals (first | assumption | wp_step))

      refine codeAny_mono (codeAny_call_builtin (R := wants (fun r s₂ => r = .none ∧ ∃ h' tk c, s₂ = { s with heap := h', toks := tk } ∧ TxR P w h' s.heap.objs.size (fun j => decide (j ∈ ns)) c ∧ c ≤ ns.length ∧
          (∀ b o, s.heap.get? b = some o → h'.get? b = some o)) E) F.called_set.init.plain F.entry_set_init (check_set_init_1 hT ?_)) fun r₂ s₂ hr₂ => ?_
      · obtain ⟨ol, hol, hcl, nl, hdl⟩ := hl
        obtain ⟨ocls, odict, odata, oslots⟩ := ol
        simp only at hcl hdl
        subst hcl; subst hdl
        have hol' : (s.heap.push { cls := .type "set", dict := none, data := .set #[] 0 (.fresh 0 0 (!w.params.followText "set-order")) }).get? l = some { cls := .type "list", dict := odict, data := .seq items nl, slots := oslots } := Heap.get?_push_of_some _ hol
        have hsls := F.sub_list_set
        have hslf := F.sub_list_frozenset
        have hne : (Value.type "list" == Value.type "dict") = false := by decide
        have hl1 : (s.heap.push { cls := .type "set", dict := none, data := .set #[] 0 (.fresh 0 0 (!w.params.followText "set-order")) }).IsList l items := ⟨_, hol', rfl, nl, rfl⟩
        unfold Builtin.«set.__init__» noKeywords Builtin.Frozenset.updateFrom
        generalize hPI : pyIter = PI
        wp_walk
        subst hPI

        refine wpAny_pyIter_list hl1 ?_
        refine wpAny_bind (wpAny_runValue ?_)
        have hlS : l < s.heap.objs.size := Heap.lt_size hol
        have hh3 : A.in1.in1.in1.handled = none := by simp [hh]
        have hz1 : (s.heap.push { cls := .type "set", dict := none, data := .set #[] 0 (.fresh 0 0 (!w.params.followText "set-order")) }).objs.size = s.heap.objs.size + 1 := Heap.size_push ..
        have hneI : l ≠ (s.heap.push { cls := .type "set", dict := none, data := .set #[] 0 (.fresh 0 0 (!w.params.followText "set-order")) }).objs.size := by
          rw [Heap.size_push]; exact Nat.ne_of_lt (Nat.lt_succ_of_lt hlS)
        have hSf : s.heap.objs.size ∉ [(s.heap.push { cls := .type "set", dict := none, data := .set #[] 0 (.fresh 0 0 (!w.params.followText "set-order")) }).objs.size, l] := by
          rw [Heap.size_push]; simp only [List.mem_cons, List.mem_singleton, List.not_mem_nil, or_false, not_or]
          exact ⟨Nat.ne_of_lt (Nat.lt_succ_self _), Nat.ne_of_gt hlS⟩
        have hval : ∀ (i : Nat) (v : Value), items[i]? = some v → ∃ k t, ns[i]? = some k ∧ v = .str k t := fun i v hv => by
          have hi : i < ns.length := by rw [← hisz]; exact (Array.getElem?_eq_some_iff.mp hv).1
          obtain ⟨t, e⟩ := SS.strs_at hit i v (by rw [Array.getElem?_toList]; exact hv)
          refine ⟨ns[i], t, List.getElem?_eq_getElem hi, ?_⟩
          rw [e, List.getD_eq_getElem?_getD, List.getElem?_eq_getElem hi] <;> rfl
        refine set_update_txts ((Walks.list hh3 _ l hneI items).toS) s.heap.objs.size
          hSf ns hisz hb hval (items.size - 0) 0 _ (by omega) (Nat.zero_le _)
          ⟨⟨_, Heap.get?_push_size _ rfl, rfl, rfl⟩, (hl1.push _)⟩ ?hS0 ?hR
        case hS0 =>
          have hget : ((s.heap.push { cls := .type "set", dict := none, data := .set #[] 0 (.fresh 0 0 (!w.params.followText "set-order")) }).push { cls := .type "list_iterator", data := .fields #[.ref l, .int 0 0] }).get? s.heap.objs.size
              = some { cls := .type "set", dict := none, data := .set #[] 0 (.fresh 0 0 (!w.params.followText "set-order")) } := Heap.get?_push_of_some _ hS
          exact ⟨0, Nat.le_refl 0, txR_new_at hget⟩
        case hR =>
          intro s' c' hm hc' hS'
          obtain ⟨h', g2, d', tk', os'⟩ := s'
          have eg : g2 = s.gens := hm.gens
          have ed : d' = s.drawn := hm.drawn
          have eo : os' = s.os := hm.os
          subst eg; subst ed; subst eo
          show wpAny _ _ _ _ _ _
          refine wpAny_pure ?_
          show wpAny _ _ (ret Value.none) _ _ _
          rw [hisz] at hc'
          refine wpAny_pure ⟨rfl, h', tk', c', rfl, hS', hc', fun b o e => ?_⟩
          have hb0 : b < s.heap.objs.size := Heap.lt_size e
          have hb1 : b ≠ s.heap.objs.size := Nat.ne_of_lt hb0
          have hb2 : b ≠ (s.heap.push { cls := .type "set", dict := none, data := .set #[] 0 (.fresh 0 0 (!w.params.followText "set-order")) }).objs.size := by
            rw [Heap.size_push]; exact Nat.ne_of_lt (Nat.lt_succ_of_lt hb0)
          exact hm.heap b o (by simp only [List.mem_cons, List.mem_singleton, List.not_mem_nil, or_false, not_or]; exact ⟨hb1, hb2⟩) (Heap.get?_push_of_some _ (Heap.get?_push_of_some _ e))

      · cases r₂ with
        | error e => exact hr₂
        | ok fl₂ =>
          cases fl₂ with
          | ret r =>
            obtain ⟨rfl, h', tk, c', rfl, hS', hc', hk'⟩ := hr₂
            repeat (any_goals (first | assumption | wp_step))
            exact h _ _ _ hS' hc' hk'
          | _ => exact hr₂.elim
    | _ => exact hr.elim
end
section
variable {P : Program} {w : World} {A : Around} {E : Value → Shared → Prop} {s : Shared} {a : Addr}
theorem strs_of : ∀ (l : List Value), (∀ v ∈ l, ∃ k tk, v = Value.str k tk) → StrsAre l (l.map fun v => keyS (0, v))
  | [], _ => .nil
  | v :: l, h => by
    obtain ⟨k, tk, rfl⟩ := h v List.mem_cons_self
    exact .cons k tk (strs_of l fun u hu => h u (List.mem_cons_of_mem _ hu))
theorem sorted_txts {S : Str → Bool} {n : Nat} {Q : Value → Shared → Prop} (R : TxR P w s.heap a S n) (hh : A.handled = none)
    (hQ : ∀ s' p (out : Array Value) (c : Nat) (ss : List Str), (∀ b o, s.heap.get? b = some o → s'.heap.get? b = some o) → s'.gens = s.gens → s'.os = s.os → s.heap.objs.size ≤ p →
      s'.heap.get? p = some (seqObj "list" out c) → StrsAre out.toList ss → sortedS ss = true → ss.Nodup → (∀ k, k ∈ ss ↔ S k = true) → ss.length = n → Q (.ref p) s') :
    wpAny (model P w) A (call (.builtin "sorted") [.ref a]) Q E s := by
  obtain ⟨o, es, ep, t, ho, hex, hd, g, nd, hm, hb, hf, hn, hr, hl⟩ := R
  have hb2 : n < 4096 := by rw [← hn]; exact hb
  refine Calls.call_function_entry kind_sorted plain_sorted entry_sorted (args_sorted1 _) ?_
  unfold Builtin.«sorted»
  refine wpAny_bind (m := checkCount "sorted" 1 1 _) (wpAny_pure ?_)
  refine wpAny_bind (collect_set (A := A.in1) hh ⟨o, ho, hex.1, hd⟩ hf hb hr hl fun s1 vs k1 hz g1 o1 pm => ?_)
  have hvl : vs.length = n := by rw [pm.length_eq, List.length_map, Array.length_toList]; exact hn
  have hI : StrsAre vs (vs.map fun v => keyS (0, v)) := strs_of vs fun v hv => by
    obtain ⟨e, he, q⟩ := List.mem_map.mp (pm.mem_iff.mp hv)
    obtain ⟨k, tk, h1, _⟩ := g e he
    exact ⟨k, tk, by rw [← q]; exact h1⟩
  have pk : (vs.map fun v => keyS (0, v)).Perm (es.toList.map keyS) := by
    have q := pm.map fun v => keyS (0, v)
    rw [List.map_map] at q
    exact q
  have hvs : vs.length ≤ sizeLine := by rw [hvl, sizeLine_eq]; omega
  refine wpAny_bind (wpAny_newList ?_ hvs)
  have hoL : (s1.heap.push (seqObj "list" vs.toArray 0)).get? s1.heap.objs.size = some (seqObj "list" vs.toArray 0) := Heap.get?_push_size _ rfl
  refine wpAny_bind (wpAny_holding (wpAny_call_entry slot_list_sort ⟨_, hoL, rfl⟩ entry_list_sort (list_sort_treeKAny strKind_oneLt hoL hI.keysOf (fun v₁ v₂ rest e => keyKind_strs (by rw [← e]; exact hI)) hvs fun st' hp hs => ⟨_, rfl, ?_⟩) (args_list_sort _)))
  obtain ⟨ss, a1, a2, a3⟩ := sorted_out_str hI hp hs
  obtain ⟨c, hc⟩ := sortedHeap_at (vs := vs) (out := (arrOf st').map (·.2)) hoL
  have pn : ss.Perm (es.toList.map keyS) := a2.trans pk
  refine wpAny_pure ⟨_, rfl, hQ _ s1.heap.objs.size _ c ss (fun b u e => ?_) g1 o1 hz hc a1 a3 (pn.nodup_iff.mpr nd) (fun k => by rw [pn.mem_iff, ← hm k]) ?_⟩
  · have q := k1 b u e
    have hlt := Heap.lt_size q
    show (sortedHeap (s1.heap.push (seqObj "list" vs.toArray 0)) s1.heap.objs.size vs _).get? b = some u
    rw [sortedHeap_old (Nat.ne_of_lt hlt) (by rw [size_push']; exact Nat.lt_succ_of_lt hlt)]
    exact Heap.get?_push_of_some _ q
  · rw [pn.length_eq, List.length_map, Array.length_toList]; exact hn
end
end TX
namespace DL
open PySem L2
section
variable {α β : Type} (S S' : Sto) (e : Env) (d d1 d2 d3 : Dv) (l l' : List Dv) (f f1 f2 f3 fo fi fv : DE) (t t1 t2 : DT) (fa : DA) (fl : DL) (s s1 s2 : DS) (h2 : Sto → Dv → Dv → Option (Dv × Sto)) (hc : Sto → List Dv → Option (Dv × Sto)) (g : DF) (i j k : Nat) (b : Bool) (c : Str) (fs : List (Str × Dv)) (x : Option (Dv × Sto))
def kVar (S : Sto) : Option Sl → Res Dv
  | some (.va d) => .ok d S
  | _ => .no
@[simp] theorem ev_var : eVar i e S = kVar S (e[i]?) := rfl
@[simp] theorem kVar_va : kVar S (some (.va d)) = .ok d S := rfl
@[simp] theorem ev_c : eC d e S = .ok d S := rfl
@[simp] theorem ofO_none : (ofO none : Res α) = .no := rfl
@[simp] theorem bnd_no (k : α → Sto → Res β) : bnd .no k = .no := rfl
def kB1 (h : Sto → Dv → Dv → Option (Dv × Sto)) (f2 : DE) (e : Env) (a : Dv) (S : Sto) : Res Dv := bnd (f2 e S) fun b S2 => ofO (h S2 a b)
def kB2 (h : Sto → Dv → Dv → Option (Dv × Sto)) (a b : Dv) (S : Sto) : Res Dv := ofO (h S a b)
@[simp] theorem ev_bin : eBin h2 f1 f2 e S = bnd (f1 e S) (kB1 h2 f2 e) := rfl
@[simp] theorem ev_b1 : kB1 h2 f2 e d S = bnd (f2 e S) (kB2 h2 d) := rfl
@[simp] theorem ev_b2 : kB2 h2 d1 d2 S = ofO (h2 S d1 d2) := rfl
@[simp] theorem ev_tval : tVal f e S = bnd (f e S) blD := rfl
@[simp] theorem blD_bl : blD (.bl b) S = .ok b S := rfl
@[simp] theorem ev_ttru : tTru f e S = bnd (f e S) truR := rfl
def kTru (S : Sto) : Option Bool → Res Bool
  | some b => .ok b S
  | none => .no
@[simp] theorem ev_truR : truR d S = kTru S (truD S d) := by unfold truR; cases truD S d <;> rfl
@[simp] theorem kTru_some : kTru S (some b) = .ok b S := rfl
@[simp] theorem tru_bl : truD S (.bl b) = some b := rfl
@[simp] theorem tru_non : truD S .non = some false := rfl
@[simp] theorem tru_int (n : Int) : truD S (.int n) = some (n != 0) := rfl
@[simp] theorem tru_tup : truD S (.tup l) = some (!l.isEmpty) := rfl
@[simp] theorem tru_lst : truD S (.lst l) = some (!l.isEmpty) := rfl
@[simp] theorem tru_rol : truD S (.rol l) = some (!l.isEmpty) := rfl
def kAnd (t2 : DT) (e : Env) (b : Bool) (S : Sto) : Res Bool := if b then t2 e S else .ok false S
def kOr (t2 : DT) (e : Env) (b : Bool) (S : Sto) : Res Bool := if b then .ok true S else t2 e S
def kNot (b : Bool) (S : Sto) : Res Bool := .ok (!b) S
@[simp] theorem ev_tand : tAnd' t1 t2 e S = bnd (t1 e S) (kAnd t2 e) := rfl
@[simp] theorem ev_tor : tOr' t1 t2 e S = bnd (t1 e S) (kOr t2 e) := rfl
@[simp] theorem ev_tnot : tNot' t1 e S = bnd (t1 e S) kNot := rfl
@[simp] theorem kAnd_t : kAnd t2 e true S = t2 e S := rfl
@[simp] theorem kAnd_f : kAnd t2 e false S = .ok false S := rfl
@[simp] theorem kOr_t : kOr t2 e true S = .ok true S := rfl
@[simp] theorem kOr_f : kOr t2 e false S = t2 e S := rfl
@[simp] theorem kNot_v : kNot b S = .ok (!b) S := rfl
def kIf (f1 f2 : DE) (e : Env) (b : Bool) (S : Sto) : Res Dv := if b then f1 e S else f2 e S
@[simp] theorem ev_if : eIf t f1 f2 e S = bnd (t e S) (kIf f1 f2 e) := rfl
@[simp] theorem kIf_t : kIf f1 f2 e true S = f1 e S := rfl
@[simp] theorem kIf_f : kIf f1 f2 e false S = f2 e S := rfl
def kEAnd (f2 : DE) (e : Env) (a : Dv) (S : Sto) : Res Dv := bnd (truR a S) fun k S2 => if k then f2 e S2 else .ok a S2
def kEOr (f2 : DE) (e : Env) (a : Dv) (S : Sto) : Res Dv := bnd (truR a S) fun k S2 => if k then .ok a S2 else f2 e S2
def kENot (a : Dv) (S : Sto) : Res Dv := bnd (truR a S) fun k S2 => .ok (.bl (!k)) S2
def kEAnd2 (f2 : DE) (e : Env) (a : Dv) (k : Bool) (S : Sto) : Res Dv := if k then f2 e S else .ok a S
def kEOr2 (f2 : DE) (e : Env) (a : Dv) (k : Bool) (S : Sto) : Res Dv := if k then .ok a S else f2 e S
def kENot2 (k : Bool) (S : Sto) : Res Dv := .ok (.bl (!k)) S
@[simp] theorem ev_eand : eAnd f1 f2 e S = bnd (f1 e S) (kEAnd f2 e) := rfl
@[simp] theorem ev_eor : eOr f1 f2 e S = bnd (f1 e S) (kEOr f2 e) := rfl
@[simp] theorem ev_enot : eNot f1 e S = bnd (f1 e S) kENot := rfl
@[simp] theorem ev_keand : kEAnd f2 e d S = bnd (kTru S (truD S d)) (kEAnd2 f2 e d) := by unfold kEAnd; rw [ev_truR]; rfl
@[simp] theorem ev_keor : kEOr f2 e d S = bnd (kTru S (truD S d)) (kEOr2 f2 e d) := by unfold kEOr; rw [ev_truR]; rfl
@[simp] theorem ev_kenot : kENot d S = bnd (kTru S (truD S d)) kENot2 := by unfold kENot; rw [ev_truR]; rfl
@[simp] theorem kEAnd2_t : kEAnd2 f2 e d true S = f2 e S := rfl
@[simp] theorem kEAnd2_f : kEAnd2 f2 e d false S = .ok d S := rfl
@[simp] theorem kEOr2_t : kEOr2 f2 e d true S = .ok d S := rfl
@[simp] theorem kEOr2_f : kEOr2 f2 e d false S = f2 e S := rfl
@[simp] theorem kENot2_v : kENot2 b S = .ok (.bl (!b)) S := rfl
@[simp] theorem ev_anil : aNil e S = .ok [] S := rfl
def kA1 (fa : DA) (e : Env) (d : Dv) (S : Sto) : Res (List Dv) := bnd (fa e S) fun l S2 => .ok (d :: l) S2
def kA2 (d : Dv) (l : List Dv) (S : Sto) : Res (List Dv) := .ok (d :: l) S
@[simp] theorem ev_acons : aCons f fa e S = bnd (f e S) (kA1 fa e) := rfl
@[simp] theorem ev_a1 : kA1 fa e d S = bnd (fa e S) (kA2 d) := rfl
@[simp] theorem ev_a2 : kA2 d l S = .ok (d :: l) S := rfl
@[simp] theorem ev_tup : eTup fa e S = bnd (fa e S) tupR := rfl
@[simp] theorem ev_lst : eLst fa e S = bnd (fa e S) lstR := rfl
theorem line_le (n : Nat) (h : n ≤ 100000) : n ≤ sizeLine := Nat.le_trans h (by decide)
theorem line_lt (n : Nat) (h : n < 100000) : n < sizeLine := Nat.lt_of_lt_of_le h (by decide)
theorem tupR_ok (h : l.length ≤ sizeLine) : tupR l S = .ok (.tup l) S := if_pos h
@[simp] theorem tupR0 : tupR [] S = .ok (.tup []) S := tupR_ok _ _ (line_le _ (by decide))
@[simp] theorem tupR1 (a1 : Dv) : tupR [a1] S = .ok (.tup [a1]) S := tupR_ok _ _ (line_le _ (by simp))
@[simp] theorem tupR2 (a1 a2 : Dv) : tupR [a1, a2] S = .ok (.tup [a1, a2]) S := tupR_ok _ _ (line_le _ (by simp))
@[simp] theorem tupR3 (a1 a2 a3 : Dv) : tupR [a1, a2, a3] S = .ok (.tup [a1, a2, a3]) S := tupR_ok _ _ (line_le _ (by simp))
@[simp] theorem tupR4 (a1 a2 a3 a4 : Dv) : tupR [a1, a2, a3, a4] S = .ok (.tup [a1, a2, a3, a4]) S := tupR_ok _ _ (line_le _ (by simp))
@[simp] theorem tupR5 (a1 a2 a3 a4 a5 : Dv) : tupR [a1, a2, a3, a4, a5] S = .ok (.tup [a1, a2, a3, a4, a5]) S := tupR_ok _ _ (line_le _ (by simp))
@[simp] theorem tupR6 (a1 a2 a3 a4 a5 a6 : Dv) : tupR [a1, a2, a3, a4, a5, a6] S = .ok (.tup [a1, a2, a3, a4, a5, a6]) S := tupR_ok _ _ (line_le _ (by simp))
def kCB (h : Sto → List Dv → Option (Dv × Sto)) (l : List Dv) (S : Sto) : Res Dv := ofO (h S l)
@[simp] theorem ev_cb : eCB hc fa e S = bnd (fa e S) (kCB hc) := rfl
@[simp] theorem ev_kcb : kCB hc l S = ofO (hc S l) := rfl
def kCall (g : DF) (l : List Dv) (S : Sto) : Res Dv := g S l
@[simp] theorem ev_call : eCall g fa e S = bnd (fa e S) (kCall g) := rfl
@[simp] theorem ev_kcall : kCall g l S = g S l := rfl
def kFrz (l : List Dv) (S : Sto) : Res Dv := .ok (.lst l) S
@[simp] theorem ev_frz : eFrz fl e S = bnd (fl e S) kFrz := rfl
@[simp] theorem ev_kfrz : kFrz l S = .ok (.lst l) S := rfl
def kLst (l : List Dv) (S : Sto) : Res (List Dv) := if l.length ≤ sizeLine then .ok l S else .no
@[simp] theorem ev_flst : fLst fa e S = bnd (fa e S) kLst := rfl
theorem kLst_ok (h : l.length ≤ sizeLine) : kLst l S = .ok l S := if_pos h
@[simp] theorem kLst0 : kLst [] S = .ok [] S := kLst_ok _ _ (line_le _ (by decide))
@[simp] theorem kLst1 (a1 : Dv) : kLst [a1] S = .ok [a1] S := kLst_ok _ _ (line_le _ (by simp))
@[simp] theorem kLst2 (a1 a2 : Dv) : kLst [a1, a2] S = .ok [a1, a2] S := kLst_ok _ _ (line_le _ (by simp))
@[simp] theorem kLst3 (a1 a2 a3 : Dv) : kLst [a1, a2, a3] S = .ok [a1, a2, a3] S := kLst_ok _ _ (line_le _ (by simp))
@[simp] theorem kLst4 (a1 a2 a3 a4 : Dv) : kLst [a1, a2, a3, a4] S = .ok [a1, a2, a3, a4] S := kLst_ok _ _ (line_le _ (by simp))
def kNew (l : List Dv) (S : Sto) : Res Dv := .ok (.hdl S.length) (S ++ [.lst l])
@[simp] theorem ev_new : eNew fl e S = bnd (fl e S) kNew := rfl
@[simp] theorem ev_knew : kNew l S = .ok (.hdl S.length) (S ++ [.lst l]) := rfl
@[simp] theorem ev_isq : iSq f e S = bnd (f e S) seqR := rfl
@[simp] theorem seqR_tup : seqR (.tup l) S = .ok l S := rfl
@[simp] theorem seqR_lst : seqR (.lst l) S = .ok l S := rfl
@[simp] theorem seqR_rol : seqR (.rol l) S = .ok l S := rfl
@[simp] theorem ev_rng1 : iRng1' fa e S = bnd (fa e S) rngR1 := rfl
@[simp] theorem ev_rng2 : iRng2' fa e S = bnd (fa e S) rngR2 := rfl
theorem rngR1_ok (n : Int) (h : 0 ≤ n ∧ n < 1000000000) : rngR1 [.int n] S = .ok (rngD 0 n.toNat) S := if_pos ⟨by omega, by omega⟩
/-- comprehensions -/
def kLc (gd : DG) (tt : DT) (te : DE) (vs : List Nat) (e : Env) (ds : List Dv) (S : Sto) : Res (List Dv) := match lcR gd tt te (wipeE e vs) ds S with
  | .ok l S2 => if l.length ≤ sizeLine then .ok l S2 else .no
  | _ => .no
def kLcEnd : Res (List Dv) → Res (List Dv)
  | .ok l S2 => if l.length ≤ sizeLine then .ok l S2 else .no
  | _ => .no
@[simp] theorem ev_fLc (gd : DG) (tt : DT) (te : DE) (vs : List Nat) : fLc fl gd tt te vs e S = bnd (fl e S) (kLc gd tt te vs e) := rfl
@[simp] theorem ev_kLc (gd : DG) (tt : DT) (te : DE) (vs : List Nat) : kLc gd tt te vs e l S = kLcEnd (lcR gd tt te (wipeE e vs) l S) := by unfold kLc kLcEnd; rfl
theorem kLcEnd_ok (h : l.length ≤ sizeLine) : kLcEnd (.ok l S) = .ok l S := if_pos h
@[simp] theorem wipeE_nil : wipeE e [] = e := rfl
@[simp] theorem wipeE_cons (v : Nat) (vs : List Nat) : wipeE e (v :: vs) = (wipeE e vs).set v .no := rfl
@[simp] theorem ev_gN : gN i d e = some (e.set i (.va d)) := rfl
def kGs (gs : DGs) (r : List Dv) : Option Env → Option Env
  | some e => gs r e
  | none => none
@[simp] theorem ev_gT (gs : DGs) : gT gs (.tup l) e = gs l e := rfl
@[simp] theorem ev_gsNil : gsNil [] e = some e := rfl
@[simp] theorem ev_gsCons (gd : DG) (gs : DGs) : gsCons gd gs (d :: l) e = kGs gs l (gd d e) := by show (gd d e).bind (fun e' => gs l e') = _; cases gd d e <;> rfl
@[simp] theorem kGs_some (gs : DGs) : kGs gs l (some e) = gs l e := rfl
/-- statements -/
@[simp] theorem ev_snil : sNil e S = .nx e S := rfl
def kSeq (s2 : DS) : Out → Out
  | .nx e S => s2 e S
  | o => o
@[simp] theorem ev_seq : sSeq s1 s2 e S = kSeq s2 (s1 e S) := by unfold sSeq kSeq; cases s1 e S <;> rfl
@[simp] theorem kSeq_nx : kSeq s2 (.nx e S) = s2 e S := rfl
@[simp] theorem kSeq_rt : kSeq s2 (.rt d S) = .rt d S := rfl
@[simp] theorem kSeq_bk : kSeq s2 (.bk e S) = .bk e S := rfl
@[simp] theorem kSeq_ct : kSeq s2 (.ct e S) = .ct e S := rfl
@[simp] theorem kSeq_ex : kSeq s2 (.ex c fs e S) = .ex c fs e S := rfl
def kS {α : Type} (k : Env → α → Sto → Out) (e : Env) : Res α → Out
  | .ok a S => k e a S
  | .ex c fs S => .ex c fs e S
  | .no => .no
theorem ev_sbind (f : Env → Sto → Res α) (k : Env → α → Sto → Out) : sBind f k e S = kS k e (f e S) := by unfold sBind kS; cases f e S <;> rfl
@[simp] theorem kS_ok (k : Env → α → Sto → Out) (a : α) : kS k e (.ok a S) = k e a S := rfl
@[simp] theorem kS_ex (k : Env → α → Sto → Out) : kS k e (.ex c fs S) = .ex c fs e S := rfl
def qRet (e : Env) (d : Dv) (S : Sto) : Out := .rt d S
@[simp] theorem ev_ret : sRet f e S = kS qRet e (f e S) := ev_sbind ..
@[simp] theorem ev_qret : qRet e d S = .rt d S := rfl
def qExpr (e : Env) (d : Dv) (S : Sto) : Out := .nx e S
@[simp] theorem ev_expr : sExpr f e S = kS qExpr e (f e S) := ev_sbind ..
@[simp] theorem ev_qexpr : qExpr e d S = .nx e S := rfl
def qIf (s1 s2 : DS) (e : Env) (b : Bool) (S : Sto) : Out := if b then s1 e S else s2 e S
@[simp] theorem ev_sif : sIf t s1 s2 e S = kS (qIf s1 s2) e (t e S) := ev_sbind ..
@[simp] theorem qIf_t : qIf s1 s2 e true S = s1 e S := rfl
@[simp] theorem qIf_f : qIf s1 s2 e false S = s2 e S := rfl
def qAsg (i : Nat) (e : Env) (d : Dv) (S : Sto) : Out := .nx (e.set i (.va d)) S
@[simp] theorem ev_asg : sAsg i f e S = kS (qAsg i) e (f e S) := ev_sbind ..
@[simp] theorem ev_qasg : qAsg i e d S = .nx (e.set i (.va d)) S := rfl
def kAsgG (S : Sto) : Option Env → Out
  | some e' => .nx e' S
  | none => .no
def qAsgG (gd : DG) (e : Env) (d : Dv) (S : Sto) : Out := kAsgG S (gd d e)
@[simp] theorem ev_asgG (gd : DG) : sAsgG gd f e S = kS (qAsgG gd) e (f e S) := by
  unfold sAsgG; rw [ev_sbind]; congr 1
@[simp] theorem ev_qasgG (gd : DG) : qAsgG gd e d S = kAsgG S (gd d e) := rfl
@[simp] theorem kAsgG_some : kAsgG S (some e) = .nx e S := rfl
def qPar (i j : Nat) (e : Env) (l : List Dv) (S : Sto) : Out := match l with
  | [d1, d2] => .nx ((e.set i (.va d1)).set j (.va d2)) S
  | _ => .no
@[simp] theorem ev_par : sPar i j fa e S = kS (qPar i j) e (fa e S) := ev_sbind ..
@[simp] theorem ev_qpar : qPar i j e [d1, d2] S = .nx ((e.set i (.va d1)).set j (.va d2)) S := rfl
def qPar3 (i j k : Nat) (e : Env) (l : List Dv) (S : Sto) : Out := match l with
  | [d1, d2, d3] => .nx (((e.set i (.va d1)).set j (.va d2)).set k (.va d3)) S
  | _ => .no
@[simp] theorem ev_par3 : sPar3 i j k fa e S = kS (qPar3 i j k) e (fa e S) := ev_sbind ..
@[simp] theorem ev_qpar3 : qPar3 i j k e [d1, d2, d3] S = .nx (((e.set i (.va d1)).set j (.va d2)).set k (.va d3)) S := rfl
def qOwn (i : Nat) (e : Env) (l : List Dv) (S : Sto) : Out := .nx (e.set i (.ow l)) S
@[simp] theorem ev_own : sOwn i fl e S = kS (qOwn i) e (fl e S) := ev_sbind ..
@[simp] theorem ev_qown : qOwn i e l S = .nx (e.set i (.ow l)) S := rfl
def qNew (i : Nat) (e : Env) (l : List Dv) (S : Sto) : Out := .nx (e.set i (.va (.hdl S.length))) (S ++ [.lst l])
@[simp] theorem ev_snew : sNew i fl e S = kS (qNew i) e (fl e S) := ev_sbind ..
@[simp] theorem ev_qnew : qNew i e l S = .nx (e.set i (.va (.hdl S.length))) (S ++ [.lst l]) := rfl
def kFz (i : Nat) (e : Env) (S : Sto) : Option Sl → Out
  | some (.own o) => .nx (e.set i (.va (frzO o))) S
  | _ => .no
@[simp] theorem ev_sfrz : sFrz i e S = kFz i e S (e[i]?) := by unfold sFrz kFz; cases e[i]? with
  | none => rfl
  | some s => cases s <;> rfl
@[simp] theorem kFz_ow : kFz i e S (some (.ow l)) = .nx (e.set i (.va (.lst l))) S := rfl
@[simp] theorem kFz_od (m : List (Key × Dv)) : kFz i e S (some (.od m)) = .nx (e.set i (.va (.dic m))) S := rfl
@[simp] theorem kFz_oi : kFz i e S (some (.oi c fs)) = .nx (e.set i (.va (.obj c fs))) S := rfl
def qFor (gd : DG) (s : DS) (e : Env) (l : List Dv) (S : Sto) : Out := forR gd s l e S
@[simp] theorem ev_for (gd : DG) : sFor fl gd s e S = kS (qFor gd s) e (fl e S) := ev_sbind ..
@[simp] theorem ev_qfor (gd : DG) : qFor gd s e l S = forR gd s l e S := rfl
def qOwnM (h : List Dv → List Dv → Option (List Dv × Dv)) (i : Nat) (l : List Dv) (e : Env) (as : List Dv) (S : Sto) : Out := match h l as with
  | some (l', _) => .nx (e.set i (.ow l')) S
  | none => .no
def kOwnM (h : List Dv → List Dv → Option (List Dv × Dv)) (i : Nat) (fa : DA) (e : Env) (S : Sto) : Option Sl → Out
  | some (.own (.lst l)) => kS (qOwnM h i l) e (fa e S)
  | _ => .no
@[simp] theorem ev_ownM (h : List Dv → List Dv → Option (List Dv × Dv)) : sOwnM h i fa e S = kOwnM h i fa e S (e[i]?) := by
  unfold sOwnM kOwnM
  rcases e[i]? with _ | (_ | _ | (l | _ | _)) <;> first | rfl | exact ev_sbind ..
@[simp] theorem kOwnM_ow (h : List Dv → List Dv → Option (List Dv × Dv)) : kOwnM h i fa e S (some (.ow l)) = kS (qOwnM h i l) e (fa e S) := rfl
@[simp] theorem qOwnM_app (h : l.length < sizeLine) : qOwnM appD i l e [d] S = .nx (e.set i (.ow (l ++ [d]))) S := by unfold qOwnM appD; simp only [if_pos h]
/-- handles' lists -/
def kSet (e : Env) : Option Sto → Out
  | some S => .nx e S
  | none => .no
def qSet1 (fo fi : DE) (e : Env) (v : Dv) (S : Sto) : Out := sBind fo (fun e o S2 => sBind fi (fun e i S3 => match setD S3 o i v with
  | some S4 => .nx e S4
  | none => .no) e S2) e S
def qSet2 (fi : DE) (v : Dv) (e : Env) (o : Dv) (S : Sto) : Out := sBind fi (fun e i S3 => match setD S3 o i v with
  | some S4 => .nx e S4
  | none => .no) e S
def qSet3 (v o : Dv) (e : Env) (i : Dv) (S : Sto) : Out := kSet e (setD S o i v)
@[simp] theorem ev_setI : sSetI fo fi fv e S = kS (qSet1 fo fi) e (fv e S) := ev_sbind ..
@[simp] theorem ev_qset1 : qSet1 fo fi e d S = kS (qSet2 fi d) e (fo e S) := ev_sbind ..
@[simp] theorem ev_qset2 : qSet2 fi d e d1 S = kS (qSet3 d d1) e (fi e S) := by
  unfold qSet2; rw [ev_sbind]; congr 1
@[simp] theorem ev_qset3 : qSet3 d d1 e d2 S = kSet e (setD S d1 d2 d) := rfl
@[simp] theorem kSet_some : kSet e (some S) = .nx e S := rfl
def kSetH (S : Sto) (k : Nat) (n : Int) (v : Dv) : Option Ob → Option Sto
  | some (.lst l) => match ixN l.length n with
    | some j => some (S.set k (.lst (l.set j v)))
    | none => none
  | _ => none
@[simp] theorem ev_setD (n : Int) : setD S (.hdl k) (.int n) d = kSetH S k n d (S[k]?) := by
  simp only [setD]; unfold kSetH; generalize S[k]? = z; cases z with
  | none => rfl
  | some o => cases o <;> rfl
def kSetJ (S : Sto) (k : Nat) (l : List Dv) (v : Dv) : Option Nat → Option Sto
  | some j => some (S.set k (.lst (l.set j v)))
  | none => none
@[simp] theorem kSetH_lst (n : Int) : kSetH S k n d (some (.lst l)) = kSetJ S k l d (ixN l.length n) := by simp only [kSetH]; generalize ixN l.length n = z; cases z <;> rfl
@[simp] theorem kSetJ_some : kSetJ S k l d (some j) = some (S.set k (.lst (l.set j d))) := rfl
def qAug1 (op : Dv → Dv → Option Dv) (fi fv : DE) (e : Env) (o : Dv) (S : Sto) : Out := sBind fi (fun e i S2 => match ixL S2 o i with
  | some x => sBind fv (fun e y S3 => match op x y with
    | some z => (match setD S3 o i z with
      | some S4 => .nx e S4
      | none => .no)
    | none => .no) e S2
  | none => .no) e S
def kAug2 (op : Dv → Dv → Option Dv) (fv : DE) (o i : Dv) (e : Env) (S : Sto) : Option Dv → Out
  | some x => sBind fv (fun e y S3 => match op x y with
    | some z => (match setD S3 o i z with
      | some S4 => .nx e S4
      | none => .no)
    | none => .no) e S
  | none => .no
def qAug2 (op : Dv → Dv → Option Dv) (fv : DE) (o : Dv) (e : Env) (i : Dv) (S : Sto) : Out := kAug2 op fv o i e S (ixL S o i)
def kAug4 (o i : Dv) (e : Env) (S : Sto) : Option Dv → Out
  | some z => kSet e (setD S o i z)
  | none => .no
def qAug3 (op : Dv → Dv → Option Dv) (o i x : Dv) (e : Env) (y : Dv) (S : Sto) : Out := kAug4 o i e S (op x y)
@[simp] theorem ev_augI (op : Dv → Dv → Option Dv) : sAugI op fo fi fv e S = kS (qAug1 op fi fv) e (fo e S) := ev_sbind ..
@[simp] theorem ev_qaug1 (op : Dv → Dv → Option Dv) : qAug1 op fi fv e d S = kS (qAug2 op fv d) e (fi e S) := by
  unfold qAug1; rw [ev_sbind]; congr 1
@[simp] theorem ev_qaug2 (op : Dv → Dv → Option Dv) : qAug2 op fv d e d1 S = kAug2 op fv d d1 e S (ixL S d d1) := rfl
@[simp] theorem ev_kaug2 (op : Dv → Dv → Option Dv) : kAug2 op fv d d1 e S (some d2) = kS (qAug3 op d d1 d2) e (fv e S) := by
  unfold kAug2
  simp only
  rw [ev_sbind]; congr 1
@[simp] theorem ev_qaug3 (op : Dv → Dv → Option Dv) : qAug3 op d d1 d2 e d3 S = kAug4 d d1 e S (op d2 d3) := rfl
@[simp] theorem kAug4_some : kAug4 d d1 e S (some d2) = kSet e (setD S d d1 d2) := rfl
def kIxL (i : Int) : Option Ob → Option Dv
  | some (.lst l) => atI l i
  | _ => none
@[simp] theorem ixL_hdl (n : Int) : ixL S (.hdl k) (.int n) = kIxL n (S[k]?) := by
  simp only [ixL, asL]; unfold kIxL; generalize S[k]? = z; cases z with
  | none => rfl
  | some o => cases o <;> rfl
@[simp] theorem kIxL_lst (n : Int) : kIxL n (some (.lst l)) = atI l n := rfl
def qAug (op : Dv → Dv → Option Dv) (n : Nat) (x : Dv) (e : Env) (y : Dv) (S : Sto) : Out := match op x y with
  | some z => .nx (e.set n (.va z)) S
  | none => .no
def kAug (op : Dv → Dv → Option Dv) (n : Nat) (fv : DE) (e : Env) (S : Sto) : Option Sl → Out
  | some (.va x) => kS (qAug op n x) e (fv e S)
  | _ => .no
@[simp] theorem ev_aug (op : Dv → Dv → Option Dv) (n : Nat) : sAug op n fv e S = kAug op n fv e S (e[n]?) := by
  unfold sAug kAug
  cases e[n]? with
  | none => rfl
  | some s => cases s <;> first | rfl | exact ev_sbind ..
@[simp] theorem kAug_va (op : Dv → Dv → Option Dv) (n : Nat) : kAug op n fv e S (some (.va d)) = kS (qAug op n d) e (fv e S) := rfl
@[simp] theorem qAug_add (n : Nat) (p q : Int) : qAug addI n (.int p) e (.int q) S = .nx (e.set n (.va (.int (p + q)))) S := rfl
@[simp] theorem qAug_sub (n : Nat) (p q : Int) : qAug subI n (.int p) e (.int q) S = .nx (e.set n (.va (.int (p - q)))) S := rfl
@[simp] theorem addI_int (p q : Int) : addI (.int p) (.int q) = some (.int (p + q)) := rfl
@[simp] theorem subI_int (p q : Int) : subI (.int p) (.int q) = some (.int (p - q)) := rfl
/-- operators by data -/
@[simp] theorem op_sub_i (p q : Int) : pu2 subD S (.int p) (.int q) = some (.int (p - q), S) := rfl
theorem op_mul_i (p q : Int) (h : (-(2 ^ 64) < p ∧ p < 2 ^ 64) ∨ (-(2 ^ 64) < q ∧ q < 2 ^ 64)) : pu2 mulD S (.int p) (.int q) = some (.int (p * q), S) := by
  show (if _ then some (Dv.int (p * q)) else none).map _ = _
  rw [if_pos h]; rfl
theorem op_mod_i (p q : Int) (h : 0 < q) : pu2 modD S (.int p) (.int q) = some (.int (p % q), S) := by
  show (if _ then some (Dv.int (p % q)) else none).map _ = _
  rw [if_pos h]; rfl
theorem op_fdiv_i (p q : Int) (h : 0 < q ∧ q < 1073741824) : pu2 fdivD S (.int p) (.int q) = some (.int (p / q), S) := by
  show (if _ then some (Dv.int (p / q)) else none).map _ = _
  rw [if_pos h]; rfl
@[simp] theorem op_lt_i (p q : Int) : pu2 ltD S (.int p) (.int q) = some (.bl (decide (p < q)), S) := rfl
@[simp] theorem op_le_i (p q : Int) : pu2 leD S (.int p) (.int q) = some (.bl (decide (p ≤ q)), S) := rfl
@[simp] theorem op_gt_i (p q : Int) : pu2 gtD S (.int p) (.int q) = some (.bl (decide (q < p)), S) := rfl
@[simp] theorem op_ge_i (p q : Int) : pu2 geD S (.int p) (.int q) = some (.bl (decide (q ≤ p)), S) := rfl
@[simp] theorem op_add_i (p q : Int) : addD S (.int p) (.int q) = some (.int (p + q), S) := rfl
theorem op_add_l (h : l.length + l'.length ≤ sizeLine) : addD S (.lst l) (.lst l') = some (.lst (l ++ l'), S) := if_pos h
def kEq (S : Sto) : Option Bool → Option (Dv × Sto)
  | some b => some (.bl b, S)
  | none => none
def kNe (S : Sto) : Option Bool → Option (Dv × Sto)
  | some b => some (.bl (!b), S)
  | none => none
@[simp] theorem ev_eqE : eqE S d1 d2 = kEq S (eqD S d1 d2) := by unfold eqE kEq; cases eqD S d1 d2 <;> rfl
@[simp] theorem ev_neE : neE S d1 d2 = kNe S (eqD S d1 d2) := by unfold neE kNe; cases eqD S d1 d2 <;> rfl
@[simp] theorem kEq_some : kEq S (some b) = some (.bl b, S) := rfl
@[simp] theorem kNe_some : kNe S (some b) = some (.bl (!b), S) := rfl
@[simp] theorem eq_ss (p q : Str) : eqD S (.str p) (.str q) = some (decide (p = q)) := rfl
@[simp] theorem eq_ii (p q : Int) : eqD S (.int p) (.int q) = some (decide (p = q)) := rfl
@[simp] theorem eq_bb (p q : Bool) : eqD S (.bl p) (.bl q) = some (decide (p = q)) := rfl
@[simp] theorem eq_nn : eqD S .non .non = some true := rfl
@[simp] theorem eq_ni (p : Int) : eqD S .non (.int p) = some false := rfl
@[simp] theorem eq_in (p : Int) : eqD S (.int p) .non = some false := rfl
@[simp] theorem eq_ns (p : Str) : eqD S .non (.str p) = some false := rfl
@[simp] theorem eq_sn (p : Str) : eqD S (.str p) .non = some false := rfl
@[simp] theorem eq_si (p : Str) (q : Int) : eqD S (.str p) (.int q) = some false := rfl
@[simp] theorem eq_is (p : Str) (q : Int) : eqD S (.int q) (.str p) = some false := rfl
@[simp] theorem is_non : pu2 (isD false) S d .non = some (.bl (match d with | .non => true | _ => false), S) := by cases d <;> rfl
@[simp] theorem isnot_non : pu2 (isD true) S d .non = some (.bl (match d with | .non => false | _ => true), S) := by cases d <;> rfl
@[simp] theorem is_bb (p q : Bool) : pu2 (isD false) S (.bl p) (.bl q) = some (.bl (decide (p = q)), S) := rfl
@[simp] theorem len_tup : lenD S [.tup l] = some (.int l.length, S) := rfl
@[simp] theorem len_lst : lenD S [.lst l] = some (.int l.length, S) := rfl
@[simp] theorem len_rol : lenD S [.rol l] = some (.int l.length, S) := rfl
@[simp] theorem abs_int (p : Int) : absD S [.int p] = some (.int (if p < 0 then -p else p), S) := rfl
@[simp] theorem int_int (p : Int) : intD S [.int p] = some (.int p, S) := rfl
@[simp] theorem int_bl : intD S [.bl b] = some (.int (if b then 1 else 0), S) := rfl
@[simp] theorem list_tup : listD S [.tup l] = some (.lst l, S) := rfl
@[simp] theorem list_lst : listD S [.lst l] = some (.lst l, S) := rfl
@[simp] theorem tuple_tup : tupleD S [.tup l] = some (.tup l, S) := rfl
@[simp] theorem tuple_lst : tupleD S [.lst l] = some (.tup l, S) := rfl
def kIx (S : Sto) : Option Dv → Option (Dv × Sto)
  | some d => some (d, S)
  | none => none
@[simp] theorem kIx_some : kIx S (some d) = some (d, S) := rfl
@[simp] theorem ix_tup (n : Int) : ixD S (.tup l) (.int n) = kIx S (atI l n) := by show (atI l n).map _ = _; cases atI l n <;> rfl
@[simp] theorem ix_lst (n : Int) : ixD S (.lst l) (.int n) = kIx S (atI l n) := by show (atI l n).map _ = _; cases atI l n <;> rfl
@[simp] theorem ix_rol (n : Int) : ixD S (.rol l) (.int n) = kIx S (atI l n) := by show (atI l n).map _ = _; cases atI l n <;> rfl
@[simp] theorem ix_hdl (n : Int) : ixD S (.hdl k) (.int n) = kIx S (kIxL n (S[k]?)) := by
  simp only [ixD, asQ, asT, asL]; unfold kIxL; generalize S[k]? = z
  cases z with
  | none => rfl
  | some o => cases o with
    | lst l => simp only [Option.bind_some]; generalize atI l n = q; cases q <;> rfl
    | _ => rfl
@[simp] theorem atI_cons0 {γ : Type} (a : γ) (r : List γ) : atI (a :: r) 0 = some a := by unfold atI ixN; simp
theorem atI_nat' {γ : Type} (r : List γ) (m : Nat) : atI r (m : Int) = r[m]? := by
  unfold atI ixN
  rw [if_pos (by omega)]
  by_cases h : (m : Int) < r.length
  · rw [if_pos h]; simp
  · rw [if_neg h]; simp; omega
@[simp] theorem atI_lit1 {γ : Type} (r : List γ) : atI r 1 = r[1]? := atI_nat' r 1
@[simp] theorem atI_lit2 {γ : Type} (r : List γ) : atI r 2 = r[2]? := atI_nat' r 2
@[simp] theorem atI_lit3 {γ : Type} (r : List γ) : atI r 3 = r[3]? := atI_nat' r 3
@[simp] theorem atI_lit4 {γ : Type} (r : List γ) : atI r 4 = r[4]? := atI_nat' r 4
@[simp] theorem ixN_lit0 (m : Nat) : ixN (m + 1) 0 = some 0 := by unfold ixN; simp
theorem ixN_ok {m : Nat} {n : Int} (h0 : 0 ≤ n) (h1 : n < m) : ixN m n = some n.toNat := by unfold ixN; rw [if_pos h0, if_pos h1]
@[simp] theorem rngD_len (lo : Int) (n : Nat) : (rngD lo n).length = n := by unfold rngD; simp
@[simp] theorem ev_neg : eNeg f e S = bnd (f e S) negD := rfl
@[simp] theorem negD_int (p : Int) : negD (.int p) S = .ok (.int (-p)) S := rfl
/-- a def is run -/
def kRun : Out → Res Dv
  | .rt d S' => .ok d S'
  | .nx _ S' => .ok .non S'
  | .ex c fs _ S' => .ex c fs S'
  | _ => .no
theorem ev_run (np n : Nat) (h : l.length = np) : runF np n s S l = kRun (s (startE n l) S) := by
  unfold runF kRun
  rw [if_pos h]
  try (cases s (startE n l) S <;> rfl)
@[simp] theorem kRun_rt : kRun (.rt d S) = .ok d S := rfl
@[simp] theorem kRun_nx : kRun (.nx e S) = .ok .non S := rfl
@[simp] theorem kRun_ex : kRun (.ex c fs e S) = .ex c fs S := rfl
@[simp] theorem bnd_ex (k : α → Sto → Res β) : bnd (.ex c fs S) k = .ex c fs S := rfl
/-- cuts, parts -/
@[simp] theorem ev_onone : oNone e S = .ok none S := rfl
@[simp] theorem ev_osome : oSome f e S = bnd (f e S) oInt := rfl
@[simp] theorem oInt_int (p : Int) : oInt (.int p) S = .ok (some p) S := rfl
def kCut1 (lo hi : DO) (e : Env) (d : Dv) (S : Sto) : Res Dv := bnd (lo e S) fun l S2 => bnd (hi e S2) fun h S3 => ofO (cutD S3 d l h)
def kCut2 (hi : DO) (e : Env) (d : Dv) (l : Option Int) (S : Sto) : Res Dv := bnd (hi e S) fun h S3 => ofO (cutD S3 d l h)
def kCut3 (d : Dv) (l h : Option Int) (S : Sto) : Res Dv := ofO (cutD S d l h)
@[simp] theorem ev_cut (lo hi : DO) : eCut f lo hi e S = bnd (f e S) (kCut1 lo hi e) := rfl
@[simp] theorem ev_cut1 (lo hi : DO) : kCut1 lo hi e d S = bnd (lo e S) (kCut2 hi e d) := rfl
@[simp] theorem ev_cut2 (hi : DO) (z : Option Int) : kCut2 hi e d z S = bnd (hi e S) (kCut3 d z) := rfl
@[simp] theorem ev_cut3 (y z : Option Int) : kCut3 d y z S = ofO (cutD S d y z) := rfl
@[simp] theorem cut_tup (y z : Option Int) : cutD S (.tup l) y z = some (.tup (cutG l y z), S) := rfl
@[simp] theorem cut_lst (y z : Option Int) : cutD S (.lst l) y z = some (.lst (cutG l y z), S) := rfl
@[simp] theorem cut_rol (y z : Option Int) : cutD S (.rol l) y z = some (.lst (cutG l y z), S) := rfl
/-- texts walked, dicts, texts' methods -/
@[simp] theorem seqR_str (z : Str) : seqR (.str z) S = .ok (strL z) S := rfl
def kFzD (m : List (Key × Dv)) (S : Sto) : Res Dv := .ok (.dic m) S
@[simp] theorem ev_frzD (fd : DD) : eFrzD fd e S = bnd (fd e S) kFzD := rfl
@[simp] theorem ev_kfzD (m : List (Key × Dv)) : kFzD m S = .ok (.dic m) S := rfl
@[simp] theorem ev_dnil : dNil e S = .ok [] S := rfl
@[simp] theorem ev_pnil : pNil e S = .ok [] S := rfl
def kP1 (fv : DE) (fp : DP) (e : Env) (k : Dv) (S : Sto) : Res (List (Dv × Dv)) := bnd (fv e S) fun v S2 => bnd (fp e S2) fun l S3 => .ok ((k, v) :: l) S3
def kP2 (fp : DP) (e : Env) (k v : Dv) (S : Sto) : Res (List (Dv × Dv)) := bnd (fp e S) fun l S3 => .ok ((k, v) :: l) S3
def kP3 (k v : Dv) (m : List (Dv × Dv)) (S : Sto) : Res (List (Dv × Dv)) := .ok ((k, v) :: m) S
@[simp] theorem ev_pcons (fp : DP) : pCons f1 f2 fp e S = bnd (f1 e S) (kP1 f2 fp e) := rfl
@[simp] theorem ev_p1 (fp : DP) : kP1 f2 fp e d S = bnd (f2 e S) (kP2 fp e d) := rfl
@[simp] theorem ev_p2 (fp : DP) : kP2 fp e d1 d2 S = bnd (fp e S) (kP3 d1 d2) := rfl
@[simp] theorem ev_p3 (m : List (Dv × Dv)) : kP3 d1 d2 m S = .ok ((d1, d2) :: m) S := rfl
@[simp] theorem ev_disp (fp : DP) : dDisp fp e S = bnd (fp e S) kDisp := rfl
def kStr2 (h : Sto → Str → List Dv → Option (Dv × Sto)) (z : Str) (l : List Dv) (S : Sto) : Res Dv := ofO (h S z l)
@[simp] theorem ev_strM (h : Sto → Str → List Dv → Option (Dv × Sto)) : eStrM h f fa e S = bnd (f e S) (kStrM h fa e) := rfl
@[simp] theorem ev_kstrM (h : Sto → Str → List Dv → Option (Dv × Sto)) (z : Str) : kStrM h fa e (.str z) S = bnd (fa e S) (kStr2 h z) := rfl
@[simp] theorem ev_kstr2 (h : Sto → Str → List Dv → Option (Dv × Sto)) (z : Str) : kStr2 h z l S = ofO (h S z l) := rfl
def kLenO (S : Sto) : Option Sl → Res Dv
  | some (.own (.lst l)) => .ok (.int l.length) S
  | _ => .no
@[simp] theorem ev_lenO : eLenO i e S = kLenO S (e[i]?) := by unfold eLenO kLenO; rcases e[i]? with _ | (_ | _ | (l | _ | _)) <;> rfl
@[simp] theorem kLenO_ow : kLenO S (some (.ow l)) = .ok (.int l.length) S := rfl
def kHd (i : Nat) (e : Env) (S : Sto) : Option Sl → Out
  | some (.own o) => .nx (e.set i (.va (.hdl S.length))) (S ++ [o])
  | _ => .no
@[simp] theorem ev_shdl : sHdl i e S = kHd i e S (e[i]?) := by unfold sHdl kHd; cases e[i]? with
  | none => rfl
  | some s => cases s <;> rfl
@[simp] theorem kHd_ow (o : Ob) : kHd i e S (some (.own o)) = .nx (e.set i (.va (.hdl S.length))) (S ++ [o]) := rfl
theorem qOwnM_ins (n : Int) (h : l.length < sizeLine ∧ 0 ≤ n ∧ n < 2 ^ 63) : qOwnM insD i l e [.int n, d] S = .nx (e.set i (.ow (l.take n.toNat ++ [d] ++ l.drop n.toNat))) S := by unfold qOwnM insD; simp only [if_pos h]
def kHM1 (h : List Dv → List Dv → Option (List Dv × Dv)) (fa : DA) (e : Env) (o : Dv) (S : Sto) : Res Dv := if lstHd S o then bnd (fa e S) fun as S2 => hdlM h S2 o as else .no
def kHM2 (h : List Dv → List Dv → Option (List Dv × Dv)) (o : Dv) (as : List Dv) (S : Sto) : Res Dv := hdlM h S o as
def kHM3 (h : List Dv → List Dv → Option (List Dv × Dv)) (fa : DA) (e : Env) (o : Dv) (S : Sto) (b : Bool) : Res Dv := if b then bnd (fa e S) (kHM2 h o) else .no
@[simp] theorem ev_hdlM (h : List Dv → List Dv → Option (List Dv × Dv)) : eHdlM h f fa e S = bnd (f e S) (kHM1 h fa e) := rfl
@[simp] theorem ev_khm1 (h : List Dv → List Dv → Option (List Dv × Dv)) : kHM1 h fa e d S = kHM3 h fa e d S (lstHd S d) := rfl
@[simp] theorem ev_khm3 (h : List Dv → List Dv → Option (List Dv × Dv)) : kHM3 h fa e d S true = bnd (fa e S) (kHM2 h d) := rfl
@[simp] theorem ev_khm2 (h : List Dv → List Dv → Option (List Dv × Dv)) : kHM2 h d l S = hdlM h S d l := rfl
def kLh : Option Ob → Bool
  | some (.lst _) => true
  | _ => false
@[simp] theorem lstHd_hdl : lstHd S (.hdl k) = kLh (S[k]?) := by simp only [lstHd]; unfold kLh; generalize S[k]? = z; cases z with
  | none => rfl
  | some o => cases o <;> rfl
@[simp] theorem kLh_lst : kLh (some (.lst l)) = true := rfl
end
section
variable {α β : Type} (S S' : Sto) (e : Env) (d d1 d2 d3 : Dv) (l l' : List Dv) (f f1 f2 f3 fo fi fv : DE) (t t1 t2 : DT) (fa : DA) (fl : DL) (fn : DN) (fdd : DD) (fb : DB) (s s1 s2 : DS) (o : Ob) (ss : List Sl) (i j k : Nat) (b : Bool) (c : Str) (fs : List (Str × Dv)) (m : List (Key × Dv))
/-- what may be own -/
def kAny (S : Sto) : Option Sl → Res Dv
  | some (.own o) => .ok (vwO o) S
  | some (.va d) => .ok d S
  | _ => .no
@[simp] theorem ev_any : eAny i e S = kAny S (e[i]?) := by unfold eAny kAny; rfl
@[simp] theorem kAny_va : kAny S (some (.va d)) = .ok d S := rfl
@[simp] theorem kAny_ow : kAny S (some (.ow l)) = .ok (.lst l) S := rfl
@[simp] theorem kAny_od : kAny S (some (.od m)) = .ok (.dic m) S := rfl
def kFy (i : Nat) (e : Env) (S : Sto) : Option Sl → Out
  | some (.own o) => .nx (e.set i (.va (frzO o))) S
  | some (.va _) => .nx e S
  | _ => .no
@[simp] theorem ev_sfz : sFz i e S = kFy i e S (e[i]?) := by unfold sFz kFy; rfl
@[simp] theorem kFy_va : kFy i e S (some (.va d)) = .nx e S := rfl
@[simp] theorem kFy_ow : kFy i e S (some (.ow l)) = .nx (e.set i (.va (.lst l))) S := rfl
@[simp] theorem kFy_od : kFy i e S (some (.od m)) = .nx (e.set i (.va (.dic m))) S := rfl
/-- new things -/
def kNL (l : List Dv) (S : Sto) : Res Ob := .ok (.lst l) S
@[simp] theorem ev_nL : nL fl e S = bnd (fl e S) kNL := rfl
@[simp] theorem ev_kNL : kNL l S = .ok (.lst l) S := rfl
def kND (l : List (Key × Dv)) (S : Sto) : Res Ob := .ok (.dct l) S
@[simp] theorem ev_nD : nD fdd e S = bnd (fdd e S) kND := rfl
@[simp] theorem ev_kND : kND m S = .ok (.dct m) S := rfl
def kFN (o : Ob) (S : Sto) : Res Dv := .ok (frzO o) S
@[simp] theorem ev_frzN : eFrzN fn e S = bnd (fn e S) kFN := rfl
@[simp] theorem ev_kFN : kFN o S = .ok (frzO o) S := rfl
@[simp] theorem frzO_l : frzO (.lst l) = .lst l := rfl
@[simp] theorem frzO_d : frzO (.dct m) = .dic m := rfl
@[simp] theorem frzO_i : frzO (.ins c fs) = .obj c fs := rfl
def kHN (o : Ob) (S : Sto) : Res Dv := .ok (.hdl S.length) (S ++ [o])
@[simp] theorem ev_hdlN : eHdlN fn e S = bnd (fn e S) kHN := rfl
@[simp] theorem ev_kHN : kHN o S = .ok (.hdl S.length) (S ++ [o]) := rfl
def qOwnN (i : Nat) (e : Env) (o : Ob) (S : Sto) : Out := .nx (e.set i (.own o)) S
@[simp] theorem ev_ownN : sOwnN i fn e S = kS (qOwnN i) e (fn e S) := ev_sbind ..
@[simp] theorem ev_qownN : qOwnN i e o S = .nx (e.set i (.own o)) S := rfl
@[simp] theorem ev_bnil : bNil e S = .ok [] S := rfl
def kB1' (fb : DB) (e : Env) (d : Dv) (S : Sto) : Res (List Sl) := bnd (fb e S) fun l S2 => .ok (.va d :: l) S2
def kB2' (d : Dv) (l : List Sl) (S : Sto) : Res (List Sl) := .ok (.va d :: l) S
def kB3' (fb : DB) (e : Env) (o : Ob) (S : Sto) : Res (List Sl) := bnd (fb e S) fun l S2 => .ok (.own o :: l) S2
def kB4' (o : Ob) (l : List Sl) (S : Sto) : Res (List Sl) := .ok (.own o :: l) S
@[simp] theorem ev_bva : bVa f fb e S = bnd (f e S) (kB1' fb e) := rfl
@[simp] theorem ev_bown : bOwn fn fb e S = bnd (fn e S) (kB3' fb e) := rfl
@[simp] theorem ev_b1' : kB1' fb e d S = bnd (fb e S) (kB2' d) := rfl
@[simp] theorem ev_b2' : kB2' d ss S = .ok (.va d :: ss) S := rfl
@[simp] theorem ev_b3' : kB3' fb e o S = bnd (fb e S) (kB4' o) := rfl
@[simp] theorem ev_b4' : kB4' o ss S = .ok (.own o :: ss) S := rfl
def qParB (is : List Nat) (e : Env) (ss : List Sl) (S : Sto) : Out := if ss.length = is.length then .nx (setSs is ss e) S else .no
@[simp] theorem ev_parB (is : List Nat) : sParB is fb e S = kS (qParB is) e (fb e S) := ev_sbind ..
@[simp] theorem ev_qparB2 (s1 s2 : Sl) : qParB [i, j] e [s1, s2] S = .nx ((e.set i s1).set j s2) S := rfl
@[simp] theorem ev_qparB3 (s1 s2 s3 : Sl) : qParB [i, j, k] e [s1, s2, s3] S = .nx (((e.set i s1).set j s2).set k s3) S := rfl
def qSO3 (i : Nat) (l : List Dv) (v : Dv) (e : Env) (S : Sto) : Option Nat → Out
  | some j => .nx (e.set i (.ow (l.set j v))) S
  | none => .no
def qSO2 (i : Nat) (l : List Dv) (v : Dv) (e : Env) (n : Dv) (S : Sto) : Out := match n with
  | .int n => qSO3 i l v e S (ixN l.length n)
  | _ => .no
def qSO1 (i : Nat) (fi : DE) (v : Dv) (e : Env) (S : Sto) : Option Sl → Out
  | some (.own (.lst l)) => kS (qSO2 i l v) e (fi e S)
  | _ => .no
def qSO (i : Nat) (fi : DE) (e : Env) (v : Dv) (S : Sto) : Out := qSO1 i fi v e S (e[i]?)
@[simp] theorem ev_setO : sSetO i fi fv e S = kS (qSO i fi) e (fv e S) := by
  unfold sSetO
  rw [ev_sbind]
  congr 1
@[simp] theorem ev_qSO : qSO i fi e d S = qSO1 i fi d e S (e[i]?) := rfl
@[simp] theorem ev_qSO1 : qSO1 i fi d e S (some (.ow l)) = kS (qSO2 i l d) e (fi e S) := rfl
@[simp] theorem ev_qSO2 (n : Int) : qSO2 i l d e (.int n) S = qSO3 i l d e S (ixN l.length n) := rfl
@[simp] theorem ev_qSO3 : qSO3 i l d e S (some j) = .nx (e.set i (.ow (l.set j d))) S := rfl
@[simp] theorem ev_fList : fList fa e S = bnd (fa e S) listK := rfl
@[simp] theorem listK_tup : listK [.tup l] S = .ok l S := rfl
@[simp] theorem listK_lst : listK [.lst l] S = .ok l S := rfl
@[simp] theorem listK_rol : listK [.rol l] S = .ok l S := rfl
/-- chains, ranges asked -/
def kC1 (h h' : Sto → Dv → Dv → Option (Dv × Sto)) (f2 f3 : DE) (e : Env) (a : Dv) (S : Sto) : Res Dv := bnd (f2 e S) fun b S2 => bnd (ofO (h S2 a b)) fun z S3 => match z with
  | .bl true => bnd (f3 e S3) fun c S4 => ofO (h' S4 b c)
  | .bl false => .ok (.bl false) S3
  | _ => .no
def kC3 (h' : Sto → Dv → Dv → Option (Dv × Sto)) (f3 : DE) (e : Env) (b : Dv) (z : Dv) (S : Sto) : Res Dv := match z with
  | .bl true => bnd (f3 e S) (kB2 h' b)
  | .bl false => .ok (.bl false) S
  | _ => .no
def kC2 (h h' : Sto → Dv → Dv → Option (Dv × Sto)) (f3 : DE) (e : Env) (a b : Dv) (S : Sto) : Res Dv := bnd (ofO (h S a b)) (kC3 h' f3 e b)
@[simp] theorem ev_chn (h h' : Sto → Dv → Dv → Option (Dv × Sto)) : eChn h h' f1 f2 f3 e S = bnd (f1 e S) (kC1 h h' f2 f3 e) := rfl
@[simp] theorem ev_c1 (h h' : Sto → Dv → Dv → Option (Dv × Sto)) : kC1 h h' f2 f3 e d S = bnd (f2 e S) (kC2 h h' f3 e d) := by
  unfold kC1
  congr 1
@[simp] theorem ev_c2 (h h' : Sto → Dv → Dv → Option (Dv × Sto)) : kC2 h h' f3 e d1 d2 S = bnd (ofO (h S d1 d2)) (kC3 h' f3 e d2) := rfl
@[simp] theorem ev_c3t (h' : Sto → Dv → Dv → Option (Dv × Sto)) : kC3 h' f3 e d (.bl true) S = bnd (f3 e S) (kB2 h' d) := rfl
@[simp] theorem ev_c3f (h' : Sto → Dv → Dv → Option (Dv × Sto)) : kC3 h' f3 e d (.bl false) S = .ok (.bl false) S := rfl
def kR1 (neg : Bool) (fa : DA) (e : Env) (a : Dv) (S : Sto) : Res Dv := bnd (fa e S) fun l S2 => rngK neg a l S2
@[simp] theorem ev_rngIn : eRngIn b f1 fa e S = bnd (f1 e S) (kR1 b fa e) := rfl
@[simp] theorem ev_kR1 : kR1 b fa e d S = bnd (fa e S) (rngK b d) := rfl
@[simp] theorem rngK_f (p lo hi : Int) : rngK false (.int p) [.int lo, .int hi] S = .ok (.bl (decide (lo ≤ p ∧ p < hi))) S := rfl
@[simp] theorem rngK_t (p lo hi : Int) : rngK true (.int p) [.int lo, .int hi] S = .ok (.bl (!decide (lo ≤ p ∧ p < hi))) S := rfl
/-- a name that stands for a def -/
def kCL (t : Str → Option DF) (fa : DA) (e : Env) (S : Sto) : Option Sl → Res Dv
  | some (.va (.glo x)) => match t x with
    | some g => bnd (fa e S) (kCall g)
    | none => .no
  | _ => .no
@[simp] theorem ev_callL (t : Str → Option DF) : eCallL t i fa e S = kCL t fa e S (e[i]?) := by unfold eCallL kCL; rfl
end
end DL
namespace DL
open PySem L2
section
variable (S : Sto) (b : Bool) (p : Int) (x : Str) (l : List Dv) (m : List (Key × Dv)) (k : Nat)
theorem kit_NoneType_str : kitB "NoneType" "str" = some false := by decide +kernel
theorem kit_NoneType_int : kitB "NoneType" "int" = some false := by decide +kernel
theorem kit_NoneType_bool : kitB "NoneType" "bool" = some false := by decide +kernel
theorem kit_NoneType_tuple : kitB "NoneType" "tuple" = some false := by decide +kernel
theorem kit_NoneType_list : kitB "NoneType" "list" = some false := by decide +kernel
theorem kit_NoneType_dict : kitB "NoneType" "dict" = some false := by decide +kernel
theorem kit_bool_str : kitB "bool" "str" = some false := by decide +kernel
theorem kit_bool_int : kitB "bool" "int" = some true := by decide +kernel
theorem kit_bool_bool : kitB "bool" "bool" = some true := by decide +kernel
theorem kit_bool_tuple : kitB "bool" "tuple" = some false := by decide +kernel
theorem kit_bool_list : kitB "bool" "list" = some false := by decide +kernel
theorem kit_bool_dict : kitB "bool" "dict" = some false := by decide +kernel
theorem kit_int_str : kitB "int" "str" = some false := by decide +kernel
theorem kit_int_int : kitB "int" "int" = some true := by decide +kernel
theorem kit_int_bool : kitB "int" "bool" = some false := by decide +kernel
theorem kit_int_tuple : kitB "int" "tuple" = some false := by decide +kernel
theorem kit_int_list : kitB "int" "list" = some false := by decide +kernel
theorem kit_int_dict : kitB "int" "dict" = some false := by decide +kernel
theorem kit_str_str : kitB "str" "str" = some true := by decide +kernel
theorem kit_str_int : kitB "str" "int" = some false := by decide +kernel
theorem kit_str_bool : kitB "str" "bool" = some false := by decide +kernel
theorem kit_str_tuple : kitB "str" "tuple" = some false := by decide +kernel
theorem kit_str_list : kitB "str" "list" = some false := by decide +kernel
theorem kit_str_dict : kitB "str" "dict" = some false := by decide +kernel
theorem kit_tuple_str : kitB "tuple" "str" = some false := by decide +kernel
theorem kit_tuple_int : kitB "tuple" "int" = some false := by decide +kernel
theorem kit_tuple_bool : kitB "tuple" "bool" = some false := by decide +kernel
theorem kit_tuple_tuple : kitB "tuple" "tuple" = some true := by decide +kernel
theorem kit_tuple_list : kitB "tuple" "list" = some false := by decide +kernel
theorem kit_tuple_dict : kitB "tuple" "dict" = some false := by decide +kernel
theorem kit_list_str : kitB "list" "str" = some false := by decide +kernel
theorem kit_list_int : kitB "list" "int" = some false := by decide +kernel
theorem kit_list_bool : kitB "list" "bool" = some false := by decide +kernel
theorem kit_list_tuple : kitB "list" "tuple" = some false := by decide +kernel
theorem kit_list_list : kitB "list" "list" = some true := by decide +kernel
theorem kit_list_dict : kitB "list" "dict" = some false := by decide +kernel
theorem kit_dict_str : kitB "dict" "str" = some false := by decide +kernel
theorem kit_dict_int : kitB "dict" "int" = some false := by decide +kernel
theorem kit_dict_bool : kitB "dict" "bool" = some false := by decide +kernel
theorem kit_dict_tuple : kitB "dict" "tuple" = some false := by decide +kernel
theorem kit_dict_list : kitB "dict" "list" = some false := by decide +kernel
theorem kit_dict_dict : kitB "dict" "dict" = some true := by decide +kernel
@[simp] theorem isi_non_str : isiD S [.non, .ty "str"] = some (.bl false, S) := by simp only [isiD, tyD, Option.bind_some, kit_NoneType_str, Option.map_some]
@[simp] theorem isi_non_int : isiD S [.non, .ty "int"] = some (.bl false, S) := by simp only [isiD, tyD, Option.bind_some, kit_NoneType_int, Option.map_some]
@[simp] theorem isi_non_bool : isiD S [.non, .ty "bool"] = some (.bl false, S) := by simp only [isiD, tyD, Option.bind_some, kit_NoneType_bool, Option.map_some]
@[simp] theorem isi_non_tuple : isiD S [.non, .ty "tuple"] = some (.bl false, S) := by simp only [isiD, tyD, Option.bind_some, kit_NoneType_tuple, Option.map_some]
@[simp] theorem isi_non_list : isiD S [.non, .ty "list"] = some (.bl false, S) := by simp only [isiD, tyD, Option.bind_some, kit_NoneType_list, Option.map_some]
@[simp] theorem isi_non_dict : isiD S [.non, .ty "dict"] = some (.bl false, S) := by simp only [isiD, tyD, Option.bind_some, kit_NoneType_dict, Option.map_some]
@[simp] theorem isi_non_tl : isiD S [.non, .tup [.ty "tuple", .ty "list"]] = some (.bl false, S) := by simp [isiD, tyD, kitD, tysOf, kitS, kit_NoneType_tuple, kit_NoneType_list]
@[simp] theorem isi_bl_str : isiD S [(.bl b), .ty "str"] = some (.bl false, S) := by simp only [isiD, tyD, Option.bind_some, kit_bool_str, Option.map_some]
@[simp] theorem isi_bl_int : isiD S [(.bl b), .ty "int"] = some (.bl true, S) := by simp only [isiD, tyD, Option.bind_some, kit_bool_int, Option.map_some]
@[simp] theorem isi_bl_bool : isiD S [(.bl b), .ty "bool"] = some (.bl true, S) := by simp only [isiD, tyD, Option.bind_some, kit_bool_bool, Option.map_some]
@[simp] theorem isi_bl_tuple : isiD S [(.bl b), .ty "tuple"] = some (.bl false, S) := by simp only [isiD, tyD, Option.bind_some, kit_bool_tuple, Option.map_some]
@[simp] theorem isi_bl_list : isiD S [(.bl b), .ty "list"] = some (.bl false, S) := by simp only [isiD, tyD, Option.bind_some, kit_bool_list, Option.map_some]
@[simp] theorem isi_bl_dict : isiD S [(.bl b), .ty "dict"] = some (.bl false, S) := by simp only [isiD, tyD, Option.bind_some, kit_bool_dict, Option.map_some]
@[simp] theorem isi_bl_tl : isiD S [(.bl b), .tup [.ty "tuple", .ty "list"]] = some (.bl false, S) := by simp [isiD, tyD, kitD, tysOf, kitS, kit_bool_tuple, kit_bool_list]
@[simp] theorem isi_int_str : isiD S [(.int p), .ty "str"] = some (.bl false, S) := by simp only [isiD, tyD, Option.bind_some, kit_int_str, Option.map_some]
@[simp] theorem isi_int_int : isiD S [(.int p), .ty "int"] = some (.bl true, S) := by simp only [isiD, tyD, Option.bind_some, kit_int_int, Option.map_some]
@[simp] theorem isi_int_bool : isiD S [(.int p), .ty "bool"] = some (.bl false, S) := by simp only [isiD, tyD, Option.bind_some, kit_int_bool, Option.map_some]
@[simp] theorem isi_int_tuple : isiD S [(.int p), .ty "tuple"] = some (.bl false, S) := by simp only [isiD, tyD, Option.bind_some, kit_int_tuple, Option.map_some]
@[simp] theorem isi_int_list : isiD S [(.int p), .ty "list"] = some (.bl false, S) := by simp only [isiD, tyD, Option.bind_some, kit_int_list, Option.map_some]
@[simp] theorem isi_int_dict : isiD S [(.int p), .ty "dict"] = some (.bl false, S) := by simp only [isiD, tyD, Option.bind_some, kit_int_dict, Option.map_some]
@[simp] theorem isi_int_tl : isiD S [(.int p), .tup [.ty "tuple", .ty "list"]] = some (.bl false, S) := by simp [isiD, tyD, kitD, tysOf, kitS, kit_int_tuple, kit_int_list]
@[simp] theorem isi_str_str : isiD S [(.str x), .ty "str"] = some (.bl true, S) := by simp only [isiD, tyD, Option.bind_some, kit_str_str, Option.map_some]
@[simp] theorem isi_str_int : isiD S [(.str x), .ty "int"] = some (.bl false, S) := by simp only [isiD, tyD, Option.bind_some, kit_str_int, Option.map_some]
@[simp] theorem isi_str_bool : isiD S [(.str x), .ty "bool"] = some (.bl false, S) := by simp only [isiD, tyD, Option.bind_some, kit_str_bool, Option.map_some]
@[simp] theorem isi_str_tuple : isiD S [(.str x), .ty "tuple"] = some (.bl false, S) := by simp only [isiD, tyD, Option.bind_some, kit_str_tuple, Option.map_some]
@[simp] theorem isi_str_list : isiD S [(.str x), .ty "list"] = some (.bl false, S) := by simp only [isiD, tyD, Option.bind_some, kit_str_list, Option.map_some]
@[simp] theorem isi_str_dict : isiD S [(.str x), .ty "dict"] = some (.bl false, S) := by simp only [isiD, tyD, Option.bind_some, kit_str_dict, Option.map_some]
@[simp] theorem isi_str_tl : isiD S [(.str x), .tup [.ty "tuple", .ty "list"]] = some (.bl false, S) := by simp [isiD, tyD, kitD, tysOf, kitS, kit_str_tuple, kit_str_list]
@[simp] theorem isi_tup_str : isiD S [(.tup l), .ty "str"] = some (.bl false, S) := by simp only [isiD, tyD, Option.bind_some, kit_tuple_str, Option.map_some]
@[simp] theorem isi_tup_int : isiD S [(.tup l), .ty "int"] = some (.bl false, S) := by simp only [isiD, tyD, Option.bind_some, kit_tuple_int, Option.map_some]
@[simp] theorem isi_tup_bool : isiD S [(.tup l), .ty "bool"] = some (.bl false, S) := by simp only [isiD, tyD, Option.bind_some, kit_tuple_bool, Option.map_some]
@[simp] theorem isi_tup_tuple : isiD S [(.tup l), .ty "tuple"] = some (.bl true, S) := by simp only [isiD, tyD, Option.bind_some, kit_tuple_tuple, Option.map_some]
@[simp] theorem isi_tup_list : isiD S [(.tup l), .ty "list"] = some (.bl false, S) := by simp only [isiD, tyD, Option.bind_some, kit_tuple_list, Option.map_some]
@[simp] theorem isi_tup_dict : isiD S [(.tup l), .ty "dict"] = some (.bl false, S) := by simp only [isiD, tyD, Option.bind_some, kit_tuple_dict, Option.map_some]
@[simp] theorem isi_tup_tl : isiD S [(.tup l), .tup [.ty "tuple", .ty "list"]] = some (.bl true, S) := by simp [isiD, tyD, kitD, tysOf, kitS, kit_tuple_tuple, kit_tuple_list]
@[simp] theorem isi_lst_str : isiD S [(.lst l), .ty "str"] = some (.bl false, S) := by simp only [isiD, tyD, Option.bind_some, kit_list_str, Option.map_some]
@[simp] theorem isi_lst_int : isiD S [(.lst l), .ty "int"] = some (.bl false, S) := by simp only [isiD, tyD, Option.bind_some, kit_list_int, Option.map_some]
@[simp] theorem isi_lst_bool : isiD S [(.lst l), .ty "bool"] = some (.bl false, S) := by simp only [isiD, tyD, Option.bind_some, kit_list_bool, Option.map_some]
@[simp] theorem isi_lst_tuple : isiD S [(.lst l), .ty "tuple"] = some (.bl false, S) := by simp only [isiD, tyD, Option.bind_some, kit_list_tuple, Option.map_some]
@[simp] theorem isi_lst_list : isiD S [(.lst l), .ty "list"] = some (.bl true, S) := by simp only [isiD, tyD, Option.bind_some, kit_list_list, Option.map_some]
@[simp] theorem isi_lst_dict : isiD S [(.lst l), .ty "dict"] = some (.bl false, S) := by simp only [isiD, tyD, Option.bind_some, kit_list_dict, Option.map_some]
@[simp] theorem isi_lst_tl : isiD S [(.lst l), .tup [.ty "tuple", .ty "list"]] = some (.bl true, S) := by simp [isiD, tyD, kitD, tysOf, kitS, kit_list_tuple, kit_list_list]
@[simp] theorem isi_rol_str : isiD S [(.rol l), .ty "str"] = some (.bl false, S) := by simp only [isiD, tyD, Option.bind_some, kit_list_str, Option.map_some]
@[simp] theorem isi_rol_int : isiD S [(.rol l), .ty "int"] = some (.bl false, S) := by simp only [isiD, tyD, Option.bind_some, kit_list_int, Option.map_some]
@[simp] theorem isi_rol_bool : isiD S [(.rol l), .ty "bool"] = some (.bl false, S) := by simp only [isiD, tyD, Option.bind_some, kit_list_bool, Option.map_some]
@[simp] theorem isi_rol_tuple : isiD S [(.rol l), .ty "tuple"] = some (.bl false, S) := by simp only [isiD, tyD, Option.bind_some, kit_list_tuple, Option.map_some]
@[simp] theorem isi_rol_list : isiD S [(.rol l), .ty "list"] = some (.bl true, S) := by simp only [isiD, tyD, Option.bind_some, kit_list_list, Option.map_some]
@[simp] theorem isi_rol_dict : isiD S [(.rol l), .ty "dict"] = some (.bl false, S) := by simp only [isiD, tyD, Option.bind_some, kit_list_dict, Option.map_some]
@[simp] theorem isi_rol_tl : isiD S [(.rol l), .tup [.ty "tuple", .ty "list"]] = some (.bl true, S) := by simp [isiD, tyD, kitD, tysOf, kitS, kit_list_tuple, kit_list_list]
@[simp] theorem isi_dic_str : isiD S [(.dic m), .ty "str"] = some (.bl false, S) := by simp only [isiD, tyD, Option.bind_some, kit_dict_str, Option.map_some]
@[simp] theorem isi_dic_int : isiD S [(.dic m), .ty "int"] = some (.bl false, S) := by simp only [isiD, tyD, Option.bind_some, kit_dict_int, Option.map_some]
@[simp] theorem isi_dic_bool : isiD S [(.dic m), .ty "bool"] = some (.bl false, S) := by simp only [isiD, tyD, Option.bind_some, kit_dict_bool, Option.map_some]
@[simp] theorem isi_dic_tuple : isiD S [(.dic m), .ty "tuple"] = some (.bl false, S) := by simp only [isiD, tyD, Option.bind_some, kit_dict_tuple, Option.map_some]
@[simp] theorem isi_dic_list : isiD S [(.dic m), .ty "list"] = some (.bl false, S) := by simp only [isiD, tyD, Option.bind_some, kit_dict_list, Option.map_some]
@[simp] theorem isi_dic_dict : isiD S [(.dic m), .ty "dict"] = some (.bl true, S) := by simp only [isiD, tyD, Option.bind_some, kit_dict_dict, Option.map_some]
@[simp] theorem isi_dic_tl : isiD S [(.dic m), .tup [.ty "tuple", .ty "list"]] = some (.bl false, S) := by simp [isiD, tyD, kitD, tysOf, kitS, kit_dict_tuple, kit_dict_list]
/-- one sign of a text -/
theorem occ_one (t : Str) (c : Nat) : (!(Builtin.Str.occurrences t ⟨#[c]⟩ 0 t.length 1).isEmpty) = t.cps.toList.contains c := by
  rw [Bool.eq_iff_iff, StrLaws.found_iff, List.contains_iff_mem, List.mem_iff_getElem?]
  exact exists_congr fun i => StrLaws.subAt_one t c i
/-- a sign of a text -/
def hasC (t : Str) (c : Nat) : Bool := t.cps.toList.contains c
@[simp] theorem ni_one (t : Str) (c : Nat) : inD true S (.str ⟨#[c]⟩) (.str t) = some (.bl (!hasC t c), S) := by
  show some (Dv.bl (!(!(Builtin.Str.occurrences t ⟨#[c]⟩ 0 t.length 1).isEmpty)), S) = _
  rw [occ_one]; rfl
@[simp] theorem in_one (t : Str) (c : Nat) : inD false S (.str ⟨#[c]⟩) (.str t) = some (.bl (hasC t c), S) := by
  show some (Dv.bl (!(Builtin.Str.occurrences t ⟨#[c]⟩ 0 t.length 1).isEmpty), S) = _
  rw [occ_one]; rfl
/-- a turn of a for -/
theorem forR_nx {gd : DG} {body : DS} {d : Dv} {ds : List Dv} {e e1 e2 : Env} {S S1 : Sto} (h1 : gd d e = some e1) (h2 : body e1 S = .nx e2 S1) : forR gd body (d :: ds) e S = forR gd body ds e2 S1 := by simp only [forR, h1, h2]
theorem forR_rt {gd : DG} {body : DS} {d r : Dv} {ds : List Dv} {e e1 : Env} {S S1 : Sto} (h1 : gd d e = some e1) (h2 : body e1 S = .rt r S1) : forR gd body (d :: ds) e S = .rt r S1 := by simp only [forR, h1, h2]
theorem forR_nil {gd : DG} {body : DS} {e : Env} {S : Sto} : forR gd body [] e S = .nx e S := rfl
end
end DL
namespace TX
open PySem PySem.Spec PyProof.Rows L2
def TxO (P : Program) (w : World) (a : Addr) (S : Str → Bool) (n : Nat) : HO := .ext fun h => TxR P w h a S n
section
variable {X : Cx}
theorem txO_new {w : World} {P : Program} {H : Hp} {h : Heap} {a : Addr} {S : Str → Bool} {n : Nat} (R : TxR P w h a S n) : ObjOk P w H h a (TxO P w a S n) := by
  have ⟨o, _, _, _, ho, _⟩ := R
  exact ⟨R, ⟨o, ho⟩, fun h1 h2 p k => TxR.at p k⟩
theorem txO_get {pins : List (Addr × Obj)} {σ : L2.St} {H : Hp} {s : Shared} {a : Addr} {S : Str → Bool} {n : Nat} (I : Inv X pins σ H s) (ha : H a = some (TxO X.prog X.w a S n)) : TxR X.prog X.w s.heap a S n := (I.hok a _ ha).1
def rSetTx (K : PySem.W.Frag) (P : Program) (w : World) : List V → Hp → VK → Prop := fun xs H Q => ∃ (l : Addr) (ws : List Str), xs = [V.ref l] ∧ SqL K H l (ws.map V.str) ∧ ws.length + 1 < scanBound ∧
  ∀ a c, H a = none → Q (.ref a) (upd H a (TxO P w a (fun j => decide (j ∈ ws)) c))
theorem cr_setTx (hc : X.calm = true) : CallR X (.type "set") (rSetTx X.K X.prog X.w) := by
  intro pins s σ H xs us Q I r h
  obtain ⟨l, ws, rfl, hl, hb, q⟩ := h
  rw [Vals.ref1 r]
  obtain ⟨its, rv, pl, hz⟩ := I.list hl
  have hn : H s.heap.objs.size = none := I.hok.fresh (Nat.le_refl _)
  refine call_set_txts (P := X.prog) (w := X.w) ws (I.ok.hd hc) pl.isList (by simpa using strsAre_of rv) hb fun h' tk c R _ k => ?_
  exact ⟨.ref s.heap.objs.size, upd H s.heap.objs.size (TxO X.prog X.w s.heap.objs.size _ c), I.laid (t' := tk) k (Nat.le_refl _) (txO_new R), rfl, q _ c hn⟩
def rSortedTx (P : Program) (w : World) : List V → Hp → VK → Prop := fun vs H Q => ∃ (a : Addr) (S : Str → Bool) (n : Nat), vs = [V.ref a] ∧ H a = some (TxO P w a S n) ∧
  ∀ (ss : List Str) (p : Addr), sortedS ss = true → ss.Nodup → (∀ k, k ∈ ss ↔ S k = true) → H p = none → Q (.ref p) (upd H p (.lst (ss.map V.str)))
theorem cr_sortedTx (hc : X.calm = true) : CallR X (.builtin "sorted") (rSortedTx X.prog X.w) := by
  intro pins s σ H vs us Q I r h
  obtain ⟨a, S, n, rfl, ha, q⟩ := h
  have R := txO_get I ha
  have hn4 : n < 4096 := by obtain ⟨o, es, ep, t, _, _, _, _, _, _, hb, _, hn, _⟩ := R; rw [← hn]; exact hb
  rw [Vals.ref1 r]
  refine sorted_txts R (I.ok.hd hc) fun s' p out c ns k g o hp hg hi hs hd hm hl => ?_
  have hlen : (ns.map V.str).length ≤ sizeLine := by rw [List.length_map, hl, sizeLine_eq]; omega
  have hn : H p = none := I.hok.fresh hp
  have J : Inv X pins σ (upd H p (.lst (ns.map V.str))) { s with heap := s'.heap, gens := s'.gens, drawn := s'.drawn, toks := s'.toks } :=
    I.call (ch := []) (Un.laid k hp hn) (I.hok.laid k hp ⟨hlen, out.toList, c, vals_of_strs hi, hg⟩) (by rw [g]; exact I.bare) (fun _ z => nomatch z)
  have e : s' = { s with heap := s'.heap, gens := s'.gens, drawn := s'.drawn, toks := s'.toks } := by
    cases s'
    cases s
    cases o
    rfl
  rw [e]
  exact ⟨.ref p, _, J, rfl, q ns p hs hd hm hn⟩
end
theorem str_ext {a b : Str} (h : a.cps.toList = b.cps.toList) : a = b := by
  obtain ⟨⟨a⟩⟩ := a
  obtain ⟨⟨b⟩⟩ := b
  simpa using h
def leS (a b : Str) : Prop := ¬ b.cps.toList < a.cps.toList
def ltS (a b : Str) : Prop := a.cps.toList < b.cps.toList
instance (a b : Str) : Decidable (ltS a b) := inferInstanceAs (Decidable (a.cps.toList < b.cps.toList))
theorem leS_trans {a b c : Str} (h1 : leS a b) (h2 : leS b c) : leS a c := List.le_trans (α := Nat) h1 h2
theorem leS_antisymm {a b : Str} (h1 : leS a b) (h2 : leS b a) : a = b := str_ext (List.le_antisymm (α := Nat) h1 h2)
theorem ltS_trans {a b c : Str} (h1 : ltS a b) (h2 : ltS b c) : ltS a c := List.lt_trans (α := Nat) h1 h2
theorem ltS_le {a b : Str} (h : ltS a b) : leS a b := fun z => List.lt_irrefl (α := Nat) _ (List.lt_trans (α := Nat) h z)
theorem ltS_ne {a b : Str} (h : ltS a b) : a ≠ b := fun z => by subst z; exact List.lt_irrefl (α := Nat) _ h
theorem ltS_of {a b : Str} (h1 : ¬ ltS a b) (h2 : a ≠ b) : ltS b a := by
  by_cases h : ltS b a
  · exact h
  · exact absurd (leS_antisymm (a := a) (b := b) h h1) h2
theorem pw_of_rising : ∀ (l : List Str) (p : Str), risingS p l = true → (p :: l).Pairwise leS
  | [], p, _ => List.pairwise_singleton _ _
  | x :: r, p, h => by
    simp only [risingS, Bool.and_eq_true, Bool.not_eq_true', ltCps_eq, decide_eq_false_iff_not] at h
    have ih := pw_of_rising r x h.2
    refine List.pairwise_cons.mpr ⟨fun y hy => ?_, ih⟩
    rcases List.mem_cons.mp hy with rfl | hy
    · exact h.1
    · exact leS_trans h.1 ((List.pairwise_cons.mp ih).1 y hy)
theorem pw_of_sorted : ∀ (l : List Str), sortedS l = true → l.Pairwise leS
  | [], _ => List.Pairwise.nil
  | x :: r, h => pw_of_rising r x h
def insS (x : Str) : List Str → List Str
  | [] => [x]
  | y :: r => if x = y then y :: r else if ltS x y then x :: y :: r else y :: insS x r
def srtS (l : List Str) : List Str := l.foldr insS []
theorem mem_insS {x z : Str} : ∀ {l : List Str}, z ∈ insS x l ↔ z = x ∨ z ∈ l
  | [] => by simp [insS]
  | y :: r => by
    unfold insS
    split
    · rename_i h; subst h; simp
    · split
      · simp
      · rw [List.mem_cons, mem_insS, List.mem_cons]
        constructor
        · rintro (h | h | h)
          · exact .inr (.inl h)
          · exact .inl h
          · exact .inr (.inr h)
        · rintro (h | h | h)
          · exact .inr (.inl h)
          · exact .inl h
          · exact .inr (.inr h)
theorem pw_insS {x : Str} : ∀ {l : List Str}, l.Pairwise ltS → (insS x l).Pairwise ltS
  | [], _ => List.pairwise_singleton _ _
  | y :: r, h => by
    have ⟨h1, h2⟩ := List.pairwise_cons.mp h
    unfold insS
    split
    · exact h
    · rename_i hne
      split
      · rename_i hlt
        refine List.pairwise_cons.mpr ⟨fun z hz => ?_, h⟩
        rcases List.mem_cons.mp hz with rfl | hz
        · exact hlt
        · exact ltS_trans hlt (h1 z hz)
      · rename_i hlt
        refine List.pairwise_cons.mpr ⟨fun z hz => ?_, pw_insS h2⟩
        rcases mem_insS.mp hz with rfl | hz
        · exact ltS_of hlt hne
        · exact h1 z hz
theorem mem_srtS {z : Str} : ∀ {l : List Str}, z ∈ srtS l ↔ z ∈ l
  | [] => Iff.rfl
  | x :: l => by
    show z ∈ insS x (srtS l) ↔ _
    rw [mem_insS, mem_srtS, List.mem_cons]
theorem pw_srtS : ∀ (l : List Str), (srtS l).Pairwise ltS
  | [] => List.Pairwise.nil
  | x :: l => pw_insS (pw_srtS l)
theorem srtS_uniq {l ss : List Str} (h1 : sortedS ss = true) (h2 : ss.Nodup) (h3 : ∀ k, k ∈ ss ↔ k ∈ l) : ss = srtS l := by
  have p2 := pw_srtS l
  have n2 : (srtS l).Nodup := p2.imp fun h => ltS_ne h
  refine List.Perm.eq_of_pairwise (le := leS) (fun a b _ _ h1 h2 => leS_antisymm h1 h2) (pw_of_sorted ss h1) (p2.imp fun h => ltS_le h) ((List.perm_ext_iff_of_nodup h2 n2).mpr fun k => by rw [h3, mem_srtS])
end TX
namespace DL
open PySem L2
def strsD : List Dv → Option (List Str)
  | [] => some []
  | .str x :: l => (strsD l).map (x :: ·)
  | _ :: _ => none
theorem strsD_ok {K : PySem.W.Frag} {L : Addr → Prop} {io : List Addr} {H : Hp} : ∀ {xs : List V} {l : List Dv} {ws : List Str}, VRs K L io H xs l → strsD l = some ws → xs = ws.map V.str
  | _, _, ws, .nil, h => by cases h; rfl
  | _, _, ws, .cons (d := d) (ds := l) r t, h => by
    cases r <;> simp only [strsD] at h <;> try cases h
    cases hq : strsD l with
    | none => rw [hq] at h; cases h
    | some m =>
      rw [hq] at h
      cases h
      rw [strsD_ok t hq]
      rfl
/-- sorted(set(x)), x a list of texts -/
def srtSetK (l : List Dv) (S : Sto) : Res (List Dv) := match l with
  | [d] => match (asL S d).bind strsD with
    | some ws => if ws.length ≤ 4000 then .ok ((TX.srtS ws).map Dv.str) S else .no
    | none => .no
  | _ => .no
def fSrtSet (fa : DA) : DL := fun e S => bnd (fa e S) srtSetK
theorem qf_srtSet {X : Cx} {W : WX} {p p2 pos pos2 : Pos} {a : Expr} {fa : DA} (hm : X.mg "sorted" = none) (hm2 : X.mg "set" = none) (ha : QXs X W [a] fa) (hc : X.calm = true := by rfl) (hg : Gl X "sorted" := by rfl) (hg2 : Gl X "set" := by rfl)
    (he : starEach [a] X.env = (false, eval a X.env) :: starEach [] X.env := by rfl)
    (he2 : starEach [Expr.Call (.Name "set" p2) [a] [] pos2] X.env = (false, eval (.Call (.Name "set" p2) [a] [] pos2) X.env) :: starEach [] X.env := by rfl) :
    QF X W (.Call (.Name "sorted" p) [.Call (.Name "set" p2) [a] [] pos2] [] pos) (fSrtSet fa) :=
  pe_imp (pe_callB (TX.cr_sortedTx hc) hg hm (by decide +kernel) (pa_cons (pe_callTy (TX.cr_setTx hc) hg2 hm2 (by decide +kernel) ha (by decide) (by decide) he (by rfl)) pa_nil he2) (by decide) (by decide) he2 (by rfl)) fun g H Q q => by
  obtain ⟨L0, io0, H0, L, io, e, S, fr, q⟩ := q
  refine FinF.bind (R := VXs X.K) (k := srtSetK) fr q fun L1 io1 H1 S1 l vs s1 fr1 rvs q => ?_
  unfold srtSetK at q
  split at q
  · rename_i d
    cases h : (asL S1 d).bind strsD with
    | none => rw [h] at q; exact q.elim
    | some ws =>
      rw [h] at q
      simp only at q
      split at q
      · rename_i hl
        cases rvs with
        | cons r t =>
          cases t
          cases h1 : asL S1 d with
          | none => rw [h1] at h; cases h
          | some m =>
            rw [h1] at h
            obtain ⟨a, xs, rfl, hs, t⟩ := asL_x fr1.st r h1
            have hx := strsD_ok t h
            subst hx
            refine ⟨a, ws, rfl, hs, by unfold scanBound; omega, fun b c hb => ?_⟩
            refine ⟨b, _, c, rfl, upd_same, fun ss p h2 h3 h4 hp => ?_⟩
            have hss : ss = TX.srtS ws := TX.srtS_uniq h2 h3 fun k => by rw [h4]; simp
            subst hss
            have st2 := fr1.st.alloc (o := TX.TxO X.prog X.w b (fun j => decide (j ∈ ws)) c) hb
            refine q _ _ (Ly L1 p) io1 ((Stp.alloc hb).trans (Stp.newV hp) fr1.st.sub) (st2.newV hp) ?_
            have hp1 : H1 p = none := by
              by_cases e : p = b
              · rw [e]; exact hb
              · rw [upd_ne e] at hp; exact hp
            exact ⟨p, _, rfl, hp1, .inr rfl, fun z => st2.dom p (st2.sub p z) hp, upd_same, vrs_strs _⟩
      · exact q.elim
  · exact q.elim
end DL
namespace DL
open PySem L2
def repD (S : Sto) (a b : Dv) : Option (Dv × Sto) := match b with
  | .int k => (asH S a).bind fun l => if -(2 ^ 63) ≤ k ∧ k < 2 ^ 63 ∧ l.length * k.toNat ≤ sizeLine then some (.lst (List.replicate k.toNat l).flatten, S) else none
  | _ => none
section
variable {K : PySem.W.Frag} {L : Addr → Prop} {io : List Addr} {H : Hp}
theorem VRs.rep {xs : List V} {l : List Dv} (r : VRs K L io H xs l) : ∀ k : Nat, VRs K L io H (List.replicate k xs).flatten (List.replicate k l).flatten
  | 0 => .nil
  | k + 1 => by
    rw [List.replicate_succ, List.replicate_succ, List.flatten_cons, List.flatten_cons]
    exact r.app (VRs.rep r k)
theorem ops_rep : OpS K rRep repD := by
  intro L io H S x y a b d S' Q sr ra rb e q
  cases b with
  | int k =>
    simp only [repD] at e
    cases h : asH S a with
    | none => rw [h] at e; cases e
    | some l =>
      rw [h] at e
      simp only [Option.bind_some] at e
      split at e
      · rename_i hk
        cases e
        obtain ⟨p1, xs, rfl, e1, r1⟩ := asH_x sr ra h
        cases rb.vr rfl
        exact ⟨_, k, xs, rfl, rfl, e1, hk.1, hk.2.1, by rw [r1.len]; exact hk.2.2, fun p hp => q _ _ L io (Stp.alloc hp) (sr.alloc hp) (VR.newL sr hp (VRs.rep r1 _))⟩
      · cases e
  | _ => cases e
end
theorem qe_rep {X : Cx} {W : WX} {pos : Pos} {a b : Expr} {f1 f2 : DE} (ha : QX X W a f1) (hb : QX X W b f2) : QE X W (.BinOp a .Mult b pos) (eBin repD f1 f2) := qe_op op_rep ops_rep ha hb
/-- sorted(set(x)) as it is run -/
@[simp] theorem ev_srtSet (fa : DA) (e : Env) (S : Sto) : fSrtSet fa e S = bnd (fa e S) srtSetK := rfl
end DL
namespace DL
open PySem L2
section
variable (S S' : Sto) (e : Env) (d d1 d2 d3 : Dv) (l l' : List Dv) (f f1 f2 f3 fo fi fv : DE) (fa : DA) (fl fl1 : DL) (c m x : Str) (g : DF) (k i j : Nat)
@[simp] theorem ev_fld : eFld c x f e S = bnd (f e S) (kFld c x) := rfl
def kFld2 (S : Sto) : Option Dv → Res Dv
  | some x => .ok x S
  | none => .no
@[simp] theorem kFld_obj (fs : List (Str × Dv)) : kFld c x (.obj c fs) S = kFld2 S (fs.lookup x) := by
  simp only [kFld, insOf, if_true]; unfold kFld2; cases fs.lookup x <;> rfl
@[simp] theorem kFld2_some : kFld2 S (some d) = .ok d S := rfl
@[simp] theorem ev_meth (dl : List Dv) : eMeth c m dl g fo fa e S = bnd (fo e S) (kMeth c m dl g fa e) := rfl
def kMe2 (dl : List Dv) (g : DF) (d : Dv) (as : List Dv) (S : Sto) : Res Dv := g S (d :: (as ++ dl))
@[simp] theorem ev_me2 (dl as : List Dv) : kMe2 dl g d as S = g S (d :: (as ++ dl)) := rfl
def kCm (c : Str) (g : DF) (l : List Dv) (S : Sto) : Res Dv := g S (.glo c :: l)
@[simp] theorem ev_cm : eCm c g fa e S = bnd (fa e S) (kCm c g) := rfl
@[simp] theorem ev_kcm : kCm c g l S = g S (.glo c :: l) := rfl
@[simp] theorem ev_tab (t : List (Str × Dv)) : eTab t f e S = bnd (f e S) (tabD t) := rfl
def kTab2 (S : Sto) : Option Dv → Res Dv
  | some x => .ok x S
  | none => .no
@[simp] theorem tabD_str (t : List (Str × Dv)) (z : Str) : tabD t (.str z) S = kTab2 S (t.lookup z) := by simp only [tabD]; unfold kTab2; cases t.lookup z <;> rfl
@[simp] theorem kTab2_some : kTab2 S (some d) = .ok d S := rfl
@[simp] theorem ev_zip : iZip' fa e S = bnd (fa e S) zipR := rfl
@[simp] theorem ev_enum : iEnum' fa e S = bnd (fa e S) enumR := rfl
@[simp] theorem zipR_tt : zipR [.tup l, .tup l'] S = .ok (zipD l l') S := rfl
@[simp] theorem zipR_tl : zipR [.tup l, .lst l'] S = .ok (zipD l l') S := rfl
@[simp] theorem zipR_lt : zipR [.lst l, .tup l'] S = .ok (zipD l l') S := rfl
@[simp] theorem zipR_ll : zipR [.lst l, .lst l'] S = .ok (zipD l l') S := rfl
@[simp] theorem enumR_t : enumR [.tup l] S = .ok (enumD l) S := rfl
@[simp] theorem enumR_l : enumR [.lst l] S = .ok (enumD l) S := rfl
@[simp] theorem ev_ddict : dDict fa e S = bnd (fa e S) dictK := rfl
@[simp] theorem ev_revT : eRevT f e S = bnd (f e S) revD := rfl
end
end DL
namespace DL
open PySem L2
end DL
namespace DL
open PySem L2
theorem deep_same {S : Sto} {a b : Dv} {p : PyData} (ha : toP (res S a) = some p) (hb : toP (res S b) = some p) (hp : SeqAt.shaped p = true) : deepE S a b = some true := by
  unfold deepE
  rw [ha, hb]
  simp only [Option.bind_some, hp, Bool.and_self, if_true]
  rw [PySem.SeqAt.eqv_refl p (SeqAt.canLay_of_shaped hp)]
def Rp (d : Dv) (p : PyData) : Prop := ∀ m S, toP (deref m S d) = some p
def Rps (l : List Dv) (ps : List PyData) : Prop := ∀ m S, toPs (l.map (deref m S)) = some ps
theorem rps_nil : Rps [] [] := fun _ _ => rfl
theorem rps_cons {d : Dv} {l : List Dv} {p : PyData} {ps : List PyData} (h1 : Rp d p) (h2 : Rps l ps) : Rps (d :: l) (p :: ps) := fun m S => by
  rw [List.map_cons]
  unfold toPs
  rw [h1 m S, h2 m S]
  rfl
theorem rp_str (x : Str) : Rp (.str x) (.str x) := fun m S => by cases m <;> rfl
theorem map_deref0 (S : Sto) (l : List Dv) : l.map (deref 0 S) = l := by rw [show deref 0 S = id from rfl, List.map_id]
theorem rp_lst {l : List Dv} {ps : List PyData} (h : Rps l ps) : Rp (.lst l) (.list ps) := fun m S => by
  cases m with
  | zero => show (toPs l).map PyData.list = _; have := h 0 S; rw [map_deref0] at this; rw [this]; rfl
  | succ m => show (toPs (l.map (deref m S))).map PyData.list = _; rw [h m S]; rfl
theorem cl_cons (p : PyData) (ps : List PyData) : PyData.canLayAll0 (p :: ps) = (p.canLay0 && PyData.canLayAll0 ps) := by simp [PyData.canLayAll0]
theorem da_cons (p : PyData) (ps : List PyData) : PyData.depthAll (p :: ps) = max p.depth (PyData.depthAll ps) := by simp [PyData.depthAll]
theorem shaped_of {p : PyData} (h1 : p.canLay0 = true) (h2 : p.depth ≤ 64) : SeqAt.shaped p = true := by
  unfold SeqAt.shaped
  rw [h1, decide_eq_true h2]; rfl
/-- plain data of a depth -/
def Pl (n : Nat) (d : Dv) : Prop := ∃ p, Rp d p ∧ p.canLay0 = true ∧ p.depth ≤ n
def Pls (n : Nat) (l : List Dv) : Prop := ∃ ps, Rps l ps ∧ PyData.canLayAll0 ps = true ∧ PyData.depthAll ps ≤ n
theorem pls_of {n : Nat} : ∀ l : List Dv, (∀ d ∈ l, Pl n d) → Pls n l
  | [], _ => ⟨[], rps_nil, rfl, Nat.zero_le _⟩
  | d :: l, h => by
    obtain ⟨p, a1, a2, a3⟩ := h d (List.mem_cons_self ..)
    obtain ⟨ps, h1, h2, h3⟩ := pls_of l fun x hx => h x (List.mem_cons_of_mem _ hx)
    exact ⟨p :: ps, rps_cons a1 h1, by rw [cl_cons, a2, h2]; rfl, by rw [da_cons]; exact Nat.max_le.mpr ⟨a3, h3⟩⟩
theorem pl_str {n : Nat} {x : Str} (h : (PyData.str x).canLay0 = true) : Pl n (.str x) := ⟨_, rp_str x, h, by simp [PyData.depth]⟩
theorem pl_lst {n : Nat} {l : List Dv} (h : ∀ d ∈ l, Pl n d) : Pl (n + 1) (.lst l) := by
  obtain ⟨ps, h1, h2, h3⟩ := pls_of l h
  exact ⟨_, rp_lst h1, by simpa [PyData.canLay0] using h2, by simp [PyData.depth]; omega⟩
theorem Pl.deep {d : Dv} (h : Pl 64 d) (S : Sto) : deepE S d d = some true := by
  obtain ⟨p, h1, h2, h3⟩ := h
  exact deep_same (h1 40 S) (h1 40 S) (shaped_of h2 h3)
theorem eq_lst_same {l : List Dv} (S : Sto) (h : Pl 64 (.lst l)) : eqD S (.lst l) (.lst l) = some true := by
  show (if lenNe (some l) (some l) then some false else deepE S (.lst l) (.lst l)) = _
  rw [show lenNe (some l) (some l) = false by simp [lenNe], if_neg Bool.false_ne_true]
  exact h.deep S
end DL
namespace DL
open PySem L2
end DL
namespace DL
open PySem L2
structure InF (K : PySem.W.Frag) (C : Addr) : Prop where
  cl : Cls K C
  ha : PySem.W.findIn K (.ref C) "__class__" = some (some (.builtin "object.__class__"))
  hn : PySem.W.specialIn K (.builtin "object.__class__") "__get__" = some (some (.builtin "getset_descriptor.__get__"))
  htk : PySem.W.takesIn K (.builtin "object.__class__") = some true
  hm : PySem.W.mroIn K C (.type "object") = some true
def infB (c : Str) : Ft := .any fun K => (faB (.cls c)).ok K && (PySem.W.findIn K (.ref (He.ga K c)) "__class__" == some (some (.builtin "object.__class__"))) && (PySem.W.specialIn K (.builtin "object.__class__") "__get__" == some (some (.builtin "getset_descriptor.__get__"))) && (PySem.W.takesIn K (.builtin "object.__class__") == some true) && (PySem.W.mroIn K (He.ga K c) (.type "object") == some true)
theorem inf_f {K : PySem.W.Frag} {c : Str} (h : (infB c).ok K = true) : InF K (He.ga K c) := by
  have h0 : ((faB (.cls c)).ok K && (PySem.W.findIn K (.ref (He.ga K c)) "__class__" == some (some (.builtin "object.__class__"))) && (PySem.W.specialIn K (.builtin "object.__class__") "__get__" == some (some (.builtin "getset_descriptor.__get__"))) && (PySem.W.takesIn K (.builtin "object.__class__") == some true) && (PySem.W.mroIn K (He.ga K c) (.type "object") == some true)) = true := h
  obtain ⟨h0, h5⟩ := He.ba h0
  obtain ⟨h0, h4⟩ := He.ba h0
  obtain ⟨h0, h3⟩ := He.ba h0
  obtain ⟨h1, h2⟩ := He.ba h0
  exact ⟨cls_f h1, beq_iff_eq.mp h2, beq_iff_eq.mp h3, beq_iff_eq.mp h4, beq_iff_eq.mp h5⟩
def blt : List String := ["NoneType", "bool", "int", "str", "tuple", "list", "dict"]
/-- isinstance against the own class c: the classes in sub answer as it says, built-in things no -/
structure IsO (K : PySem.W.Frag) (c : Str) (sub : List (Str × Bool)) : Prop where
  own : ∀ c' b, sub.lookup c' = some b → InF K (He.ga K c') ∧ PySem.W.kitOne K (.ref (He.ga K c')) (.ref (He.ga K c)) = some b
  blt : ∀ T ∈ blt, PySem.W.kitOne K (.type T) (.ref (He.ga K c)) = some false
def isoB (c : Str) (sub : List (Str × Bool)) : Ft := .any fun K => (sub.all fun q => (infB q.1).ok K && (PySem.W.kitOne K (.ref (He.ga K q.1)) (.ref (He.ga K c)) == some q.2)) && blt.all fun T => PySem.W.kitOne K (.type T) (.ref (He.ga K c)) == some false
theorem mem_lookupB {k : Str} {d : Bool} : ∀ {l : List (Str × Bool)}, l.lookup k = some d → (k, d) ∈ l
  | [], h => by simp at h
  | (k', d') :: l, h => by
    rw [List.lookup_cons] at h
    cases e : k == k' with
    | true =>
      rw [e] at h
      cases h
      rw [beq_iff_eq.mp e]
      exact List.mem_cons_self
    | false => rw [e] at h; exact List.mem_cons_of_mem _ (mem_lookupB h)
theorem iso_f {K : PySem.W.Frag} {c : Str} {sub : List (Str × Bool)} (h : (isoB c sub).ok K = true) : IsO K c sub := by
  have h0 : ((sub.all fun q => (infB q.1).ok K && (PySem.W.kitOne K (.ref (He.ga K q.1)) (.ref (He.ga K c)) == some q.2)) && blt.all fun T => PySem.W.kitOne K (.type T) (.ref (He.ga K c)) == some false) = true := h
  obtain ⟨h1, h2⟩ := He.ba h0
  refine ⟨fun c' b hl => ?_, fun T hT => beq_iff_eq.mp (List.all_eq_true.mp h2 T hT)⟩
  have h3 := List.all_eq_true.mp h1 (c', b) (mem_lookupB hl)
  obtain ⟨h4, h5⟩ := He.ba h3
  exact ⟨inf_f h4, beq_iff_eq.mp h5⟩
def isoD (c : Str) (sub : List (Str × Bool)) (S : Sto) : List Dv → Option (Dv × Sto)
  | [d, .glo x] => if x = c then (match insOf S d with
    | some (c', _) => (sub.lookup c').map fun b => (.bl b, S)
    | none => (tyD S d).map fun _ => (.bl false, S)) else none
  | _ => none
section
variable {K : PySem.W.Frag} {L : Addr → Prop} {io : List Addr} {H : Hp} {S : Sto}
theorem tyD_blt {d : Dv} {t : String} (e : tyD S d = some t) : t ∈ blt := by
  unfold tyD at e
  split at e <;> first | (cases e; decide) | (split at e <;> first | (cases e; decide) | cases e) | cases e
/-- the type of an instance, a handle or one in a slot -/
theorem insOf_ty (s : SR K L io H S) {v : V} {d : Dv} {c : Str} {fs : List (Str × Dv)} (r : VX K L io H v d) (e : insOf S d = some (c, fs)) : ∃ p dx vs, v = .ref p ∧ H p = some (.ins (He.ga K c) dx vs) := by
  rcases r with r | ⟨p, o, rfl, rfl, np, ob⟩
  · obtain ⟨p, dx, vs, h1, h2, _⟩ := insOf_ok s r e
    exact ⟨p, dx, vs, h1, h2⟩
  · cases o with
    | ins c' fs' => cases e; obtain ⟨dx, vs, h1, _⟩ := ob; exact ⟨p, dx, vs, rfl, h1⟩
    | _ => cases e
theorem cas_iso {c : Str} {sub : List (Str × Bool)} (hi : IsO K c sub) : CaS K (rIsi K) (isoD c sub) := by
  intro L io H S xs l d S' Q sr rv e q
  cases rv with
  | nil => cases e
  | cons r t =>
    cases t with
    | nil => cases e
    | cons r2 t2 =>
      cases t2 with
      | cons r3 t3 => rename_i d2 _ _ _ _; cases d2 <;> cases e
      | nil =>
        rename_i v dd w cc
        cases cc with
        | glo x =>
          simp only [isoD] at e
          split at e
          · rename_i hx
            subst hx
            cases (r2.vr rfl) with
            | glo x =>
              cases h1 : insOf S dd with
              | some z =>
                obtain ⟨c', fs⟩ := z
                rw [h1] at e
                obtain ⟨b, h2, h3⟩ := map_ok e
                cases h3
                obtain ⟨f, hk⟩ := hi.own c' b h2
                obtain ⟨p, dx, vs, rfl, hp⟩ := insOf_ty sr r h1
                exact ⟨_, _, _, _, b, rfl, .own _, .base (.ins hp f.cl f.ha f.hn f.htk f.hm), hk, q _ H L io (Stp.refl ..) sr (.bl _)⟩
              | none =>
                rw [h1] at e
                obtain ⟨t, h2, h3⟩ := map_ok e
                cases h3
                exact ⟨_, _, _, _, false, rfl, .own _, tyD_ok sr r h2, hi.blt t (tyD_blt h2), q _ H L io (Stp.refl ..) sr (.bl _)⟩
          · cases e
        | _ => cases e
end
structure EqF (K : PySem.W.Frag) (C : Addr) : Prop where
  inf : InF K C
  ne : PySem.W.findIn K (.ref C) "__ne__" = some (some (.builtin "object.__ne__"))
  sub : ∀ T ∈ blt, PySem.W.subIn K (.type T) (.ref C) = some false
def eqfB (c : Str) : Ft := .any fun K => (infB c).ok K && (PySem.W.findIn K (.ref (He.ga K c)) "__ne__" == some (some (.builtin "object.__ne__"))) && blt.all fun T => PySem.W.subIn K (.type T) (.ref (He.ga K c)) == some false
theorem eqf_f {K : PySem.W.Frag} {c : Str} (h : (eqfB c).ok K = true) : EqF K (He.ga K c) := by
  have h0 : ((infB c).ok K && (PySem.W.findIn K (.ref (He.ga K c)) "__ne__" == some (some (.builtin "object.__ne__"))) && blt.all fun T => PySem.W.subIn K (.type T) (.ref (He.ga K c)) == some false) = true := h
  obtain ⟨h0, h3⟩ := He.ba h0
  obtain ⟨h1, h2⟩ := He.ba h0
  exact ⟨inf_f h1, beq_iff_eq.mp h2, fun T hT => beq_iff_eq.mp (List.all_eq_true.mp h3 T hT)⟩
theorem ne_slot : Slot "object" "__ne__" "object.__ne__" :=
  Slot.of (T := "object") (name := "__ne__") (owner := "object") (n := "__ne__") (by rw [typeLookup_type, builtinLookup_eq_fast]; kernel_rfl) (by decide +kernel) (by decide +kernel) (by decide +kernel)
    (.inl (by decide +kernel)) (by rw [isSubtype_type]; kernel_rfl)
section
variable {prog : Program} {w : World} {A : Around} {E : Value → Shared → Prop} {s : Shared} {K : PySem.W.Frag} {x C f : Addr} {ox : Obj} {od : Option Obj} {b tb : Value}
open PySem.W in
theorem ne_K {Q : Value → Shared → Prop} (hu : A.units + 1 < cLine) (X : K.In s.heap) (I : InstAt s.heap x ox C od) (hb : Looks (model prog w) s.heap (typeOf b) tb) (hn : notFirst K C tb = true)
    (hne : findIn K (.ref C) "__ne__" = some (some (.builtin "object.__ne__"))) (hob : mroIn K C (.type "object") = some true) (hs : findIn K (.ref C) "__eq__" = some (some (.ref f))) (hf : isFn K (.ref f) = true)
    (h : wpAny (model prog w) A.in1 (call (.ref f) [.ref x, b]) (fun v s' => ∃ r, v = .bool r ∧ Q (.bool (!r)) s') E s) : wpAny (model prog w) A (richCompare .NotEq (.ref x) b) Q E s := by
  have body : wpAny (model prog w) A.in1 (Builtin.«object.__ne__» ⟨[.ref x, b], []⟩) (fun fin s' => match fin with
      | .done f => wants (fun v s' => ∃ r, v = .bool r ∧ Q (.bool r) s') E (.ok f) s'
      | .again c' => c'.quiet = true ∧ codeAny (model prog w) A c' (wants (fun v s' => ∃ r, v = .bool r ∧ Q (.bool r) s') E) s') (fun e s' => wants (fun v s' => ∃ r, v = .bool r ∧ Q (.bool r) s') E (.error e) s') s := by
    unfold Builtin.«object.__ne__»
    repeat (first
      | with_reducible refine wpAny_cRoomFor hu ?_
      | (refine wpAny_bind (m := callSpecialIfBound? (.ref x) (Str.ofString "__eq__") [b])
          (ifBound_K X I hs hf (wpAny_mono h (fun r s' hr => by
            obtain ⟨b, rfl, hq⟩ := hr
            repeat (first | exact ⟨_, rfl, hq⟩ | exact wpAny_pure ⟨_, rfl, hq⟩ | exact wpAny_truthy_bool ⟨_, rfl, hq⟩ | (refine wpAny_bind (m := truthy (.bool _)) (wpAny_truthy_bool ?_)) | wp_step)) fun _ _ e => e)))
      | wp_step)
  have sub : Looks (model prog w) s.heap (isInstance (.ref x) (.type "object")) true := I.type.andThen (looks_mroIn X hob)
  have one : wpAny (model prog w) A (tryCompare (.ref x) "__ne__" b) (fun r s' => ∃ v, r = some v ∧ Q v s') E s := by
    unfold tryCompare
    refine wpAny_bind ?_
    simp only [callSpecialIfBound?, bindSpecialIfBound?]
    refine wpAny_holding (wpAny_bind (wpAny_bind (wpAny_bind (I.type.here ((looks_findIn X hne).here ?_)))))
    simp only [ne_slot.bind]
    refine wpAny_bind (wpAny_askSetting (wpAny_ite ?_))
    have fin : wpAny (model prog w) A (call (.builtin "object.__ne__") ([.ref x] ++ [b]) >>= fun v => pure (some v)) (fun r s' => wpAny (model prog w) A (match r with
      | some .notImplemented | none => pure none
      | some v => pure (some v)) (fun r s' => ∃ v, r = some v ∧ Q v s') E s') E s := by
      have c1 : wpAny (model prog w) A (call (.builtin "object.__ne__") [.ref x, b]) (fun v s' => ∃ r, v = .bool r ∧ Q (.bool r) s') E s := wpAny_call (codeAny_call_builtin ne_slot.plain F.cmpEntry_ne (check_slot F.cmpKind_ne F.cmpSplit_ne sub (F.cmpArgs_ne _ _) body))
      refine wpAny_bind (wpAny_mono c1 (fun v s' hv => ?_) fun _ _ e => e)
      obtain ⟨r, rfl, hq⟩ := hv
      exact wpAny_pure (wpAny_pure ⟨_, rfl, hq⟩)
    split
    · exact wpAny_bind (wpAny_pure (wpAny_pure fin))
    · exact wpAny_tryCatch (wpAny_bind (wpAny_pure (wpAny_pure fin)))
  unfold richCompare
  simp only [oneThing_ref]
  refine wpAny_holding (wpAny_bind (wpAny_cRoomFor (Nat.lt_of_succ_lt hu) ?_))
  rw [cmpInfo_NotEq]
  dsimp only
  refine wpAny_bind (I.type.here (wpAny_bind (hb.here ?_)))
  split
  · rename_i q
    have e : subIn K tb (.ref C) = some false := by
      rcases Bool.or_eq_true_iff.mp hn with e | e
      · rw [beq_iff_eq.mp e] at q; simp at q
      · exact beq_iff_eq.mp e
    refine wpAny_bind ((looks_subIn X e).here ?_)
    simp only [Bool.false_eq_true, if_false]
    refine wpAny_bind (wpAny_mono one (fun r s' z => ?_) fun _ _ e => e)
    obtain ⟨v, rfl, hq⟩ := z
    exact wpAny_pure hq
  · refine wpAny_bind (wpAny_pure ?_)
    simp only [Bool.false_eq_true, if_false]
    refine wpAny_bind (wpAny_mono one (fun r s' z => ?_) fun _ _ e => e)
    obtain ⟨v, rfl, hq⟩ := z
    exact wpAny_pure hq
end
section
variable {X : Cx} {W : WX} {k : Nat} {f : Addr} {fd : FuncData} {ps : List Str} {sp : Sp} {dvs : List V} {ds : List Value}
/-- a callee runs below a built-in -/
theorem run_gA {A : Around} {pins : List (Addr × Obj)} {g : St} {H : Hp} {s : Shared} {Q : VK} {us : List Value} {vs : List V} (hfr : A.frames = X.A.frames) (F : FnG X.prog X.w X.K X.mg X.base k f fd ps sp) (hr : RoomG k A) (hb : Binds X.K fd ps ds) (hd : Vals dvs ds) (tk : Takes X W)
    (I : Inv X pins g H s) (r : Vals vs us) (h : sp (vs ++ dvs) H Q (fun c d H' => W c d g H')) : wpAny (model X.prog X.w) A (call (.ref f) us) (EP X pins g Q) X.xe s := by
  have r2 := r.append hd
  have hl : (us ++ ds).length = ps.length := by
    rw [← r2.length]
    exact F.len _ _ _ _ h
  have e0 : Env0 X.prog X.w X.K X.mg X.base A X.stack s H := by
    have e := I.env0
    exact ⟨by rw [hfr]; exact e.frames, e.mod, e.bs, e.bsz, e.funs, e.frf, e.hok, e.bare⟩
  refine wpAny_call (codeAny_mono (F.run A X.stack s H ⟨us, []⟩ _ _ Q _ hr e0 (hb s us I.kIn hl) r2 h) fun rr s' z => ?_)
  match rr, z with
  | .error e, z => exact tk e s' (XE.of_call I (fun _ _ _ q => q) z)
  | .ok (.ret u), z => exact I.after z
  | .ok .next, z => exact z.elim
  | .ok .brk, z => exact z.elim
  | .ok .cont, z => exact z.elim
end
def rgtOk (S : Sto) (c : Str) (b : Dv) : Bool := match insOf S b with
  | some (c', _) => decide (c' = c)
  | none => (tyD S b).isSome
def blR (neg : Bool) : Res Dv → Res Dv
  | .ok (.bl r) S' => .ok (.bl (if neg then !r else r)) S'
  | _ => .no
def kEqO (neg : Bool) (c : Str) (g : DF) (a b : Dv) (S : Sto) : Res Dv := match insOf S a with
  | some (c', _) => if c' = c ∧ rgtOk S c b = true then blR neg (g S [a, b]) else .no
  | none => .no
def eEqO (neg : Bool) (c : Str) (g : DF) (f1 f2 : DE) : DE := fun e S => bnd (f1 e S) fun a S1 => bnd (f2 e S1) fun b S2 => kEqO neg c g a b S2
/-- what the own == of the class at C asks -/
def rEqO (K : PySem.W.Frag) (c : Str) (g : DF) (neg : Bool) : R2 := fun x y H Q => ∃ a dx fs t, x = .ref a ∧ H a = some (.ins (He.ga K c) dx fs) ∧ TyX K H y t ∧ PySem.W.notFirst K (He.ga K c) t = true ∧
  spD K g [x, y] H (fun v H' => ∃ r, v = .bl r ∧ Q (.bl (if neg then !r else r)) H') (fun _ _ _ => False)
section
variable {X : Cx} {W : WX} {k : Nat} {c : Str} {g : DF} {pos : Pos} {a b : Expr} {f1 f2 : DE}
theorem op_neO (hE : EqF X.K (He.ga X.K c)) (F : FM X.prog X.w X.K X.mg X.base k c "__eq__" [] g) (hr : RoomG (k + 1) X.A) : OpR X (compareOp .NotEq) (rEqO X.K c g true) := by
  rintro pins s σ H x y v u Q I rx ry ⟨a, dx, fs, t, rfl, ha, ht, hn, hsp⟩
  cases (show v = Value.ref a from rx)
  obtain ⟨f, fd, ps, ds, dvs, F, hc, hm, hb, hv, hd⟩ := F
  obtain ⟨mA, J, _⟩ := ins_get I.hok ha
  obtain ⟨od, J, _⟩ := J.look
  obtain ⟨P, hk, hp, _⟩ := kit_of I ry ht
  have dn : dvs = [] := by
    have := hd (fun _ => False) [] (fun _ => none)
    cases this; rfl
  subst dn
  refine ne_K hr.in1.r.units0 I.kIn J (hk.ty _ _ I.kIn hp) hn hE.ne hE.inf.hm hm.at_ hm.fn (thn (run_gA (A := X.A.in1) (us := [.ref a, u]) (vs := [.ref a, y]) rfl F hr.in1 hb hv takesW0 I (.cons rfl (.cons ry .nil)) (by rw [List.append_nil]; exact hsp)) fun w s' z => ?_)
  obtain ⟨z, H', I', rz, r, rfl, q⟩ := z
  cases (show w = Value.bool r from rz)
  exact ⟨r, rfl, .bl (!r), H', I', rfl, q⟩
theorem rgt_ok {L : Addr → Prop} {io : List Addr} {H : Hp} {S : Sto} {K : PySem.W.Frag} {y : V} {d : Dv} (hE : EqF K (He.ga K c)) (s : SR K L io H S) (r : VR K L io H y d) (h : rgtOk S c d = true) : ∃ t, TyX K H y t ∧ PySem.W.notFirst K (He.ga K c) t = true := by
  unfold rgtOk at h
  cases e : insOf S d with
  | some z =>
    obtain ⟨c', fs⟩ := z
    rw [e] at h
    have hc : c' = c := by simpa using h
    subst hc
    obtain ⟨p, dx, vs, rfl, hp⟩ := insOf_ty s (.inl r) e
    exact ⟨_, .base (.ins hp hE.inf.cl hE.inf.ha hE.inf.hn hE.inf.htk hE.inf.hm), by simp [PySem.W.notFirst]⟩
  | none =>
    rw [e] at h
    cases e2 : tyD S d with
    | none => rw [e2] at h; cases h
    | some t =>
      refine ⟨.type t, tyD_ok0 s r e2, ?_⟩
      unfold PySem.W.notFirst
      rw [hE.sub t (tyD_blt e2)]
      simp
theorem rd_eqO {neg : Bool} (hE : EqF X.K (He.ga X.K c)) {st : St} {H : Hp} {Q : VK} (q : rd X.K W (eEqO neg c g f1 f2) st H Q) : tOp (rEqO X.K c g neg) (rd X.K W f1) (rd X.K W f2) st H Q := by
  refine Rdg.bind (R := VR X.K) (k := fun e a S1 => bnd (f2 e S1) fun b S2 => kEqO neg c g a b S2) q fun L0 io0 H0 L io H1 e S d v fr rv q1 => ?_
  refine Fin.bind (R := VR X.K) (k := fun b S2 => kEqO neg c g d b S2) fr q1 fun L2 io2 H2 S2 d2 v2 s2 fr2 r2 q2 => ?_
  clear q1 q
  have q := q2
  clear q2
  have r1 := rv.step s2 fr.st.sub
  unfold kEqO at q
  cases h1 : insOf S2 d with
  | none => rw [h1] at q; exact q.elim
  | some z =>
    obtain ⟨c', fs⟩ := z
    rw [h1] at q
    simp only at q
    split at q
    · rename_i hc
      obtain ⟨hc, hl⟩ := hc
      subst hc
      obtain ⟨p, dx, vs, rfl, e1⟩ := insOf_ty fr2.st (.inl r1) h1
      obtain ⟨t, t1, t2⟩ := rgt_ok hE fr2.st r2 hl
      refine ⟨p, dx, vs, t, rfl, e1, t1, t2, L2, io2, S2, [d, d2], fr2.st, .cons r1 (.cons r2 .nil), ?_⟩
      cases h2 : g S2 [d, d2] with
      | ok r S' =>
        rw [h2] at q
        cases r with
        | bl b =>
          intro v H' io' s sr r
          cases r
          exact ⟨b, rfl, q _ H' _ io' s sr (.bl _)⟩
        | _ => exact q.elim
      | ex c fs S' => rw [h2] at q; exact q.elim
      | no => rw [h2] at q; exact q.elim
    · exact q.elim
theorem qt_neO (hE : EqF X.K (He.ga X.K c)) (F : FM X.prog X.w X.K X.mg X.base k c "__eq__" [] g) (hr : RoomG (k + 1) X.A) (ha : QE X W a f1) (hb : QE X W b f2) (hm : behindInMarks .NotEq b = false := by first | exact nomark _ | rfl) : QT X W (.Compare a [.NotEq] [b] pos) (tVal (eEqO true c g f1 f2)) :=
  pt_imp (pt_cmpR (op_neO hE F hr) ha hb hm) fun st H Q q => by
    have z := rd_tval q
    exact (show tTest (tOp (rEqO X.K c g true) (rd X.K W f1) (rd X.K W f2)) st H Q from rd_eqO hE z)
end
end DL
namespace DL
open PySem L2
def kLIx (fa : DE) (e : Env) (d : Dv) (S : Sto) : Res Dv := match d with
  | .lst l => bnd (fa e S) (tixE l)
  | _ => .no
def eLIx (f fa : DE) : DE := fun e S => bnd (f e S) (kLIx fa e)
section
variable (S : Sto) (e : Env) (d : Dv) (l l' : List Dv) (f f1 f2 fa : DE) (c : Str) (g : DF) (b neg : Bool)
@[simp] theorem ev_lix : eLIx f fa e S = bnd (f e S) (kLIx fa e) := rfl
@[simp] theorem ev_klix : kLIx fa e (.lst l) S = bnd (fa e S) (tixE l) := rfl
def kEO1 (neg : Bool) (c : Str) (g : DF) (f2 : DE) (e : Env) (a : Dv) (S : Sto) : Res Dv := bnd (f2 e S) fun b S2 => kEqO neg c g a b S2
@[simp] theorem ev_eqO : eEqO neg c g f1 f2 e S = bnd (f1 e S) (kEO1 neg c g f2 e) := rfl
@[simp] theorem ev_kEO1 : kEO1 neg c g f2 e d S = bnd (f2 e S) (kEqO neg c g d) := rfl
@[simp] theorem blR_ok : blR neg (.ok (.bl b) S) = .ok (.bl (if neg then !b else b)) S := rfl
end
end DL
namespace DL
open PySem L2
end DL
namespace DL
open PySem PySem.Spec PyProof.Rows L2
def kRaise (g : DF) (c : Str) (ns : List Str) (e : Env) (l : List Dv) (S : Sto) : Out := match g S l with
  | .ok _ _ => if l.length = ns.length then .ex c (ns.zip l).reverse e S else .no
  | _ => .no
def sRaise (g : DF) (c : Str) (ns : List Str) (fa : DA) : DS := fun e S => match fa e S with
  | .ok l S1 => kRaise g c ns e l S1
  | _ => .no
end DL
namespace DL
open PySem PySem.Spec PyProof.Rows L2
abbrev HR (α : Type) := Str → List (Str × Dv) → Env → Sto → Res α
theorem ExR.step {K : PySem.W.Frag} {L L' : Addr → Prop} {io io' : List Addr} {H H' : Hp} {x : Option Addr} {fs : List (Str × Dv)} (h : ExR K L io H x fs) (s : Stp L io H L' io' H') (sub : ∀ x ∈ io, L x) : ExR K L' io' H' x fs := by
  obtain ⟨a, vs, h1, h2, h3, h4⟩ := h
  obtain ⟨k1, k2⟩ := (s.on sub).2 a _ h3 h2
  exact ⟨a, vs, h1, k2, k1, h4.mono fun v d r => r.step s sub⟩
def RdH {α β : Type} (K : PySem.W.Frag) (R : (Addr → Prop) → List Addr → Hp → β → α → Prop) (i : Nat) (a : Addr) (cls : Value) (d : Option Addr) (h : HR α) : L2.St → Hp → (β → Hp → Prop) → Prop := fun σ H Q =>
  ∃ (c : Str) (fs : List (Str × Dv)) (L0 : Addr → Prop) (io0 : List Addr) (H0 : Hp) (L : Addr → Prop) (io : List Addr) (e : Env) (S : Sto), cls = .ref (He.ga K c) ∧ FR K L0 io0 H0 L io H σ e S ∧ σ[i]? = some (some (.ref a)) ∧ ExR K L io H d fs ∧ Fin K (fun _ _ _ _ => False) R σ L io H Q (h c fs e S)
theorem RdH.bind {α β α' β' : Type} {K : PySem.W.Frag} {R : (Addr → Prop) → List Addr → Hp → β → α → Prop} {R' : (Addr → Prop) → List Addr → Hp → β' → α' → Prop} {i : Nat} {a : Addr} {cls : Value} {d : Option Addr} {h : HR α} {k : Str → List (Str × Dv) → Env → α → Sto → Res α'} {σ : L2.St} {H : Hp} {Q : β' → Hp → Prop} {P : β → Hp → Prop}
    (q : RdH K R' i a cls d (fun c fs e S => bnd (h c fs e S) (k c fs e)) σ H Q)
    (n : ∀ (c : Str) (fs : List (Str × Dv)) (L0 : Addr → Prop) (io0 : List Addr) (H0 : Hp) (L : Addr → Prop) (io : List Addr) (H1 : Hp) (e : Env) (S : Sto) (x : α) (v : β), cls = .ref (He.ga K c) → FR K L0 io0 H0 L io H1 σ e S → σ[i]? = some (some (.ref a)) → ExR K L io H1 d fs → R L io H1 v x → Fin K (fun _ _ _ _ => False) R' σ L io H1 Q (k c fs e x S) → P v H1) : RdH K R i a cls d h σ H P := by
  obtain ⟨c, fs, L0, io0, H0, L, io, e, S, hc, fr, si, ex, q0⟩ := q
  have q : Fin K (fun _ _ _ _ => False) R' σ L io H Q (bnd (h c fs e S) (k c fs e)) := q0
  refine ⟨c, fs, L0, io0, H0, L, io, e, S, hc, fr, si, ex, ?_⟩
  cases hh : h c fs e S with
  | ok x S1 =>
    rw [hh] at q
    intro v H1 L1 io1 s1 sr1 r1
    exact n c fs L0 io0 H0 L1 io1 H1 e S1 x v hc (fr.step s1 sr1) si (ex.step s1 fr.st.sub) r1 (Fin.later q s1 fr.st.sub)
  | ex c' fs' S1 => rw [hh] at q; exact q
  | no => rw [hh] at q; exact q
end DL
namespace DL
open PySem L2
section
variable (S S' : Sto) (e e' : Env) (d : Dv) (l : List Dv) (c f : Str) (fs : List (Str × Dv)) (ns : List Str) (fa : DA) (g : DF) (i : Nat) (b : Bool) (body : DS) (h : HR Dv) (sub : List (Str × Bool))
def kRs (g : DF) (c : Str) (ns : List Str) (e : Env) : Res (List Dv) → Out
  | .ok l S1 => kRaise g c ns e l S1
  | _ => .no
@[simp] theorem ev_raise : sRaise g c ns fa e S = kRs g c ns e (fa e S) := by unfold sRaise kRs; cases fa e S <;> rfl
@[simp] theorem kRs_ok : kRs g c ns e (.ok l S) = kRaise g c ns e l S := rfl
end
end DL
namespace DL
open PySem L2
section
variable {X : Cx} {W : WX} {pos pos' : Pos} {o i a : Expr} {f f1 f2 fv fo fi : DE} {kk : Nat} {x : Str}
/-- d a handle -/
def dputH (S : Sto) (o i v : Dv) : Option Sto := match o with
  | .hdl k => (match S[k]? with
    | some (.dct l) => (keyD i).bind fun k' => if l.length < sizeLine then some (S.set k (.dct (putD l k' v))) else none
    | _ => none)
  | _ => none
def sDPutH (fo fi fv : DE) : DS := sBind fv fun e v S1 => sBind fo (fun e o S2 => sBind fi (fun e i S3 => match dputH S3 o i v with
  | some S4 => .nx e S4
  | none => .no) e S2) e S1
theorem qs_dputH (hr : Room kk X.A) (ho : QE X W o fo) (hi : QE X W i fi) (hv : QE X W a fv) (hs : swapsWith a (some (.Subscript o i pos')) pos.line X.env = pure false := by rfl) : QS X W (.Assign [.Subscript o i pos'] a pos) (sDPutH fo fi fv) := ps_imp (ps_dput (hu_of hr) ho hi hv hs) fun D g H h => by
  refine rds_bind (R := VR X.K) (k := fun e v S1 => sBind fo (fun e o S2 => sBind fi (fun e i S3 => match dputH S3 o i v with
    | some S4 => .nx e S4
    | none => .no) e S2) e S1) h fun L0 io0 H0 L io H1 e S v vv fr rv q => ?_
  refine outR.bind (R := VR X.K) (k := fun e o S2 => sBind fi (fun e i S3 => match dputH S3 o i v with
    | some S4 => .nx e S4
    | none => .no) e S2) fr q fun L2 io2 H2 S2 od ov s2 fr2 ro q2 => ?_
  refine outR.bind (R := VR X.K) (k := fun e i S3 => match dputH S3 od i v with
    | some S4 => .nx e S4
    | none => .no) fr2 q2 fun L3 io3 H3 S3 id iv s3 fr3 ri q3 => ?_
  have ro3 := ro.step s3 fr2.st.sub
  have rv3 := (rv.step s2 fr.st.sub).step s3 fr2.st.sub
  unfold dputH at q3
  cases od with
  | hdl k =>
    cases ro3 with
    | hdl hk =>
      rename_i p
      cases hS : S3[k]? with
      | none => simp only [hS] at q3; exact q3.elim
      | some ob =>
        cases ob with
        | dct l =>
          simp only [hS] at q3
          cases h2 : keyD id with
          | none => rw [h2] at q3; exact q3.elim
          | some k' =>
            rw [h2] at q3
            simp only [Option.bind_some] at q3
            by_cases hl : l.length < sizeLine
            · rw [if_pos hl] at q3
              simp only at q3
              obtain ⟨kvs, e1, r1⟩ := fr3.st.obj k p _ hk hS
              have ma : p ∈ io3 := List.mem_of_getElem? hk
              refine ⟨p, upd H3 p (.dK (putK kvs k' vv)), rfl, ?_, ?_⟩
              · rw [keyD_ok ri h2]
                exact DPut.k e1 (by rw [PairR.len r1]; exact hl)
              · have s4 : Stp L3 io3 H3 L3 io3 (upd H3 p (.dK (putK kvs k' vv))) := Stp.mutH ma
                exact q3 g _ L3 io3 (s4.stw fr3.st.sub) (fr3.step s4 (fr3.st.setH hk ⟨_, upd_same, (PairR.put r1 rv3).mono fun v d r => r.mut (fr3.st.sub p ma)⟩))
            · rw [if_neg hl] at q3; exact q3.elim
        | _ => simp only [hS] at q3; exact q3.elim
  | _ => exact q3.elim
/-- d a slot's own -/
def dputO (j : Nat) (l : List (Key × Dv)) (v : Dv) (e : Env) (i : Dv) (S : Sto) : Out := match keyD i with
  | some k => if l.length < sizeLine then .nx (e.set j (.od (putD l k v))) S else .no
  | none => .no
def sDPutO (j : Nat) (fi fv : DE) : DS := sBind fv fun e v S1 => match e[j]? with
  | some (.own (.dct l)) => sBind fi (dputO j l v) e S1
  | _ => .no
theorem qs_dputO (hr : Room kk X.A) (j : Nat) {p1 : Pos} (hi : QE X W i fi) (hv : QE X W a fv) (hN : X.N[j]? = some x := by rfl) (hvis : Vis X.env.scope x := by first | exact Or.inl rfl | exact Or.inr (Or.inl rfl) | exact Or.inr (Or.inr rfl)) (hd : (x == ("__debug__" : Str)) = false := by decide) (hcd : (x == ("__classdict__" : Str)) = false := by decide)
    (hs : swapsWith a (some (.Subscript (.Name x p1) i pos')) pos.line X.env = pure false := by rfl) : QS X W (.Assign [.Subscript (.Name x p1) i pos'] a pos) (sDPutO j fi fv) := ps_imp (ps_dput (hu_of hr) (pe_var (i := j) hN hvis hd hcd) hi hv hs) fun D g H h => by
  refine rds_bind (R := VR X.K) (k := fun e v S1 => match e[j]? with
    | some (.own (.dct l)) => sBind fi (dputO j l v) e S1
    | _ => .no) h fun L0 io0 H0 L io H1 e S v vv fr rv q => ?_
  cases he : e[j]? with
  | none => rw [he] at q; exact q.elim
  | some sl =>
    rw [he] at q
    cases sl with
    | own ob =>
      cases ob with
      | dct l =>
        obtain ⟨p, kvs, h1, h2, h3, h4, h5, h6⟩ := fr.od j l he
        refine ⟨.ref p, h1, ?_⟩
        refine outR.bind (R := VR X.K) (k := dputO j l v) fr q fun L3 io3 H3 S3 id vi s3 fr3 ri q3 => ?_
        unfold dputO at q3
        cases hk : keyD id with
        | none => rw [hk] at q3; exact q3.elim
        | some k =>
          rw [hk] at q3
          simp only at q3
          by_cases hl : l.length < sizeLine
          · rw [if_pos hl] at q3
            have np : p ∉ io3 := fun z => by
              rcases s3.hn p z with w | w
              · exact h3 w
              · rw [w] at h5; cases h5
            have lp := s3.up p h2
            refine ⟨p, upd H3 p (.dK (putK kvs k vv)), rfl, ?_, ?_⟩
            · rw [keyD_ok ri hk]
              exact DPut.k (s3.keep p _ h5 h3) (by rw [PairR.len h6]; exact hl)
            · exact q3 _ _ L3 io3 (Stw.mut lp) (fr3.ownO he h1 lp np h4 ⟨_, upd_same, (PairR.put (h6.mono fun v d r => r.step s3 fr.st.sub) (rv.step s3 fr.st.sub)).mono fun v d r => r.mut lp⟩)
          · rw [if_neg hl] at q3; exact q3.elim
      | _ => exact q.elim
    | _ => exact q.elim
def dcopK (l : List Dv) (S : Sto) : Res (List (Key × Dv)) := match l with
  | [d] => (match asD S d with
    | some m => .ok m S
    | none => .no)
  | _ => .no
def dCopy (fa : DA) : DD := fun e S => bnd (fa e S) dcopK
theorem qd_copy {p : Pos} {fa : DA} (hm : X.mg "dict" = none) (ha : QXs X W [a] fa) (hg : Gl X "dict" := by rfl) (he : starEach [a] X.env = (false, eval a X.env) :: starEach [] X.env := by rfl) : QD X W (.Call (.Name "dict" p) [a] [] pos) (dCopy fa) :=
  pe_imp (pe_callTy call_dictD hg hm (by decide +kernel) ha (by decide) (by decide) he (by rfl)) fun g H Q q => by
  obtain ⟨L0, io0, H0, L, io, e, S, fr, q⟩ := q
  refine FinD.bind (R := VXs X.K) (k := dcopK) fr q fun L1 io1 H1 S1 l vs s1 fr1 rvs q => ?_
  unfold dcopK at q
  split at q
  · rename_i d
    cases h : asD S1 d with
    | none => rw [h] at q; exact q.elim
    | some m =>
      rw [h] at q
      cases rvs with
      | cons r t =>
        cases t
        obtain ⟨a, kvs, rfl, hs, t⟩ := asD_x fr1.st r h
        refine ⟨a, kvs, rfl, hs, fun p hp => ?_⟩
        exact q _ _ (Ly L1 p) io1 (Stp.newV hp) (fr1.st.newV hp) ⟨p, _, rfl, hp, .inr rfl, fun z => fr1.st.dom p (fr1.st.sub p z) hp, upd_same, t.mono fun v d r => r.step (Stp.newV hp) fr1.st.sub⟩
  · exact q.elim
end
end DL
namespace DL
open PySem PySem.Spec PyProof.Rows L2
def kCallP (c : Str) (g : DF) (d : Dv) (as : List Dv) (S : Sto) : Res Dv := match insOf S d with
  | some (c', _) => if c' = c then g S (d :: as) else .no
  | none => .no
def kCallO (c : Str) (g : DF) (fa : DA) (e : Env) (d : Dv) (S : Sto) : Res Dv := match insOf S d with
  | some (c', _) => if c' = c then bnd (fa e S) (kCallP c g d) else .no
  | none => .no
def eCallO (c : Str) (g : DF) (i : Nat) (fa : DA) : DE := fun e S => bnd (eVar i e S) (kCallO c g fa e)
def fnmB (c m : Str) : Ft := .any fun K => PySem.W.fnIn K (He.ma K (He.ga K c) m)
theorem fnm_f {K : PySem.W.Frag} {c m : Str} (h : (fnmB c m).ok K = true) : PySem.W.fnIn K (He.ma K (He.ga K c) m) = true := h
def augF (op : Dv → Dv → Option Dv) (c f : Str) (k : Nat) (x : Dv) (e : Env) (y : Dv) (S : Sto) : Out := match op x y with
  | some z => (match setF c f S (.hdl k) z with
    | some S2 => .nx e S2
    | none => .no)
  | none => .no
def kAugF (op : Dv → Dv → Option Dv) (c f : Str) (fv : DE) (e : Env) (o : Dv) (S : Sto) : Out := match o with
  | .hdl k => (match S[k]? with
    | some (.ins c' fs) => if c' = c then (match fs.lookup f with
      | some x => sBind fv (augF op c f k x) e S
      | none => .no) else .no
    | _ => .no)
  | _ => .no
def sAugF (op : Dv → Dv → Option Dv) (c f : Str) (fo fv : DE) : DS := sBind fo (kAugF op c f fv)
def tNever : DT := fun _ _ => .no
section
variable (S S' : Sto) (e e' : Env) (d d1 d2 : Dv) (l : List Dv) (m : List (Key × Dv)) (c f : Str) (fs : List (Str × Dv)) (fa : DA) (g : DF) (i k : Nat) (fv fi fo f1 : DE)
@[simp] theorem ev_callO : eCallO c g i fa e S = bnd (kVar S (e[i]?)) (kCallO c g fa e) := rfl
@[simp] theorem ev_augF (op : Dv → Dv → Option Dv) : sAugF op c f fo fv e S = kS (kAugF op c f fv) e (fo e S) := ev_sbind ..
@[simp] theorem ev_dCopy : dCopy fa e S = bnd (fa e S) dcopK := rfl
@[simp] theorem dcopK_dic : dcopK [.dic m] S = .ok m S := rfl
end
end DL
namespace DL
open PySem L2
def rngK1 (d : Dv) (S : Sto) : Res (List Dv) := match d with
  | .int n => if 0 ≤ n ∧ n ≤ 16777216 then .ok (rngD 0 n.toNat) S else .no
  | _ => .no
def fRng (f : DE) : DL := fun e S => bnd (f e S) rngK1
def kRevL (d : Dv) (S : Sto) : Res (List Dv) := match asL S d with
  | some l => .ok l.reverse S
  | none => .no
def fRevL (f : DE) : DL := fun e S => bnd (f e S) kRevL
def kRepL (a : List Dv) (d : Dv) (S : Sto) : Res (List Dv) := match d with
  | .int k => if -(2 ^ 63) ≤ k ∧ k < 2 ^ 63 ∧ a.length * k.toNat ≤ sizeLine then .ok (List.replicate k.toNat a).flatten S else .no
  | _ => .no
def kRepA (f2 : DE) (e : Env) (d : Dv) (S : Sto) : Res (List Dv) := match d with
  | .lst l => bnd (f2 e S) (kRepL l)
  | _ => .no
def fRep (f1 f2 : DE) : DL := fun e S => bnd (f1 e S) (kRepA f2 e)
section
variable (S : Sto) (e : Env) (l : List Dv) (f f1 f2 : DE)
@[simp] theorem ev_fRng : fRng f e S = bnd (f e S) rngK1 := rfl
@[simp] theorem ev_fRevL : fRevL f e S = bnd (f e S) kRevL := rfl
@[simp] theorem kRevL_lst : kRevL (.lst l) S = .ok l.reverse S := rfl
@[simp] theorem ev_fRep : fRep f1 f2 e S = bnd (f1 e S) (kRepA f2 e) := rfl
@[simp] theorem kRepA_lst : kRepA f2 e (.lst l) S = bnd (f2 e S) (kRepL l) := rfl
end
end DL
namespace DL
open PySem L2
def dcR (tg : DG) (tt : DT) (tk tv : DE) (e : Env) : List Dv → Sto → List (Key × Dv) → Res (List (Key × Dv))
  | [], S, acc => .ok acc S
  | d :: ds, S, acc => match tg d e with
    | none => .no
    | some e' => match tt e' S with
      | .ok b S1 => if b then (match tk e' S1 with
          | .ok k S2 => (match keyD k with
            | none => .no
            | some k' => (match tv e' S2 with
              | .ok v S3 => if acc.length < sizeLine then dcR tg tt tk tv e ds S3 (putD acc k' v) else .no
              | _ => .no))
          | _ => .no) else dcR tg tt tk tv e ds S1 acc
      | _ => .no
def kDc (tg : DG) (tt : DT) (tk tv : DE) (vs : List Nat) (e : Env) (ds : List Dv) (S : Sto) : Res (List (Key × Dv)) := match dcR tg tt tk tv (wipeE e vs) ds S [] with
  | .ok l S2 => .ok l S2
  | _ => .no
def dDc (fi : DL) (tg : DG) (tt : DT) (tk tv : DE) (vs : List Nat) : DD := fun e S => bnd (fi e S) (kDc tg tt tk tv vs e)
theorem FinI.bindD {K : PySem.W.Frag} {W : WX} {f : DL} {k : List Dv → Sto → Res (List (Key × Dv))} {g : St} {L0 L : Addr → Prop} {io0 io : List Addr} {H0 H : Hp} {e : Env} {S : Sto} {Q : V → Hp → Prop} {P : It → Hp → Prop}
    (fr : FR K L0 io0 H0 L io H g e S) (h : FinD K W g L io H Q (bnd (f e S) k))
    (n : ∀ (L1 : Addr → Prop) (io1 : List Addr) (H1 : Hp) (S1 : Sto) (a : List Dv) (J : It), Stp L io H L1 io1 H1 → FR K L0 io0 H0 L1 io1 H1 g e S1 → WalkR K L1 io1 H1 J a → FinD K W g L1 io1 H1 Q (k a S1) → P J H1) : rdi K W f g H P := by
  refine ⟨L0, io0, H0, L, io, e, S, fr, ?_⟩
  cases hf : f e S with
  | ok a S1 =>
    rw [hf] at h
    intro v H1 L1 io1 s1 sr1 r1
    have h : FinD K W g L io H Q (k a S1) := h
    refine n L1 io1 H1 S1 a v s1 (fr.step s1 sr1) r1 ?_
    cases hk : k a S1 with
    | ok l S2 =>
      rw [hk] at h
      intro v H' L' io' s2 sr2 ⟨p, xs, e1, e2, e3⟩
      refine h v H' L' io' (s1.trans s2 fr.st.sub) sr2 ⟨p, xs, e1, ?_, e3⟩
      rcases s1.back e2 with z | z
      · exact absurd e2 (sr1.dom p (s1.up p (fr.st.sub p z)))
      · exact z
    | ex c fs S2 =>
      rw [hk] at h
      exact fun v H' L' io' s2 sr r2 => h v H' L' io' (s1.trans s2 fr.st.sub) sr r2
    | no => rw [hk] at h; exact h
  | ex c fs S1 => rw [hf] at h; exact h
  | no => rw [hf] at h; exact h
section
variable {X : Cx} {W : WX} {kx vx tg iter : Expr} {ifs : List Expr} {scope : Scope} {own : List (Str × Nat)} {pos : Pos} {fi : DL} {gd : DG} {tt : DT} {tk tv : DE} {vs : List Nat}
/-- the comprehension's turns over a walk -/
theorem dc_walk {K : PySem.W.Frag} {t : TG} (ho : TGok K t gd vs) {g : St} {Q : VK} {L0 L1 : Addr → Prop} {io0 io1 : List Addr} {H0 H1 : Hp} {e : Env} {S1 : Sto} {ds : List Dv} {J : It}
    (fr1 : FR K L0 io0 H0 L1 io1 H1 g e S1) (wk : WalkR K L1 io1 H1 J ds) (q : FinD K W g L1 io1 H1 Q (kDc gd tt tk tv vs e ds S1)) :
    ∀ D, H1 D = none → ∃ W : Nat → Nat → Hp → Prop, (∃ m, W 0 m (upd H1 D (.dK []))) ∧ ∀ i m H, W i m H →
  (J.stop i H ∧ Q (.ref D) H) ∨ (J.go i H ∧ ∃ Nx : Hp → Prop, (∀ H', Nx H' → ∃ m', m' < m ∧ W (i + 1) m' H') ∧ ∀ x H', J.yld i H x H' → t x (L2.wipe g vs) H' fun σ2 H2 => L2.wipe σ2 vs = L2.wipe g vs ∧ rdt K W0 tt σ2 H2 fun b H3 =>
    if b = true then rd K W0 tk σ2 H3 fun y H4 => rd K W0 tv σ2 H4 fun z H5 => ∃ kvs k, y = kV k ∧ H5 D = some (.dK kvs) ∧ kvs.length < sizeLine ∧ Nx (upd H5 D (.dK (putK kvs k z))) else Nx H3) := by
  unfold kDc at q
  cases hl : dcR gd tt tk tv (wipeE e vs) ds S1 [] with
  | ex c fs S2 => rw [hl] at q; exact q.elim
  | no => rw [hl] at q; exact q.elim
  | ok l S2 =>
    rw [hl] at q
    simp only at q
    intro D hD
    have st0 := fr1.st
    refine ⟨fun i m H' => m = ds.length - i ∧ i ≤ ds.length ∧ ∃ (L' : Addr → Prop) (io' : List Addr) (S' : Sto) (acc : List (Key × V)) (da : List (Key × Dv)), FR K L0 io0 H0 L' io' H' (L2.wipe g vs) (wipeE e vs) S' ∧ Stp L1 io1 H1 L' io' H' ∧ Stw L1 io1 H1 L' io' H' ∧ L' D ∧ D ∉ io' ∧ H' D = some (.dK acc) ∧ PairR (VR K L' io' H') acc da ∧ dcR gd tt tk tv (wipeE e vs) (ds.drop i) S' da = .ok l S2, ⟨ds.length, by simp, Nat.zero_le _, ?_⟩, ?_⟩
    · have s2 : Stp L1 io1 H1 (Ly L1 D) io1 (upd H1 D (.dK [])) := Stp.newV hD
      exact ⟨Ly L1 D, io1, S1, [], [], (fr1.step s2 (st0.newV hD)).wipe vs, s2, s2.stw st0.sub, .inr rfl, fun z => st0.dom D (st0.sub D z) hD, upd_same, .nil, by rw [List.drop_zero]; exact hl⟩
    · rintro i m H' ⟨rfl, hi, L', io', S', acc, da, fr', sp, sw, lD, nD, hDa, ra, hr⟩
      by_cases hlt : i < ds.length
      · obtain ⟨d, hd⟩ : ∃ d, ds[i]? = some d := ⟨_, List.getElem?_eq_getElem hlt⟩
        have hdrop : ds.drop i = d :: ds.drop (i + 1) := by
          rw [List.drop_eq_getElem_cons hlt]
          rw [List.getElem?_eq_getElem hlt] at hd
          cases hd
          rfl
        rw [hdrop] at hr
        obtain ⟨hgo, hy⟩ := wk.go L' io' H' S' i d sw fr'.st hd
        refine .inr ⟨hgo, fun H'' => ∃ m', m' < ds.length - i ∧ (m' = ds.length - (i + 1) ∧ i + 1 ≤ ds.length ∧ ∃ (L' : Addr → Prop) (io' : List Addr) (S' : Sto) (acc : List (Key × V)) (da : List (Key × Dv)), FR K L0 io0 H0 L' io' H'' (L2.wipe g vs) (wipeE e vs) S' ∧ Stp L1 io1 H1 L' io' H'' ∧ Stw L1 io1 H1 L' io' H'' ∧ L' D ∧ D ∉ io' ∧ H'' D = some (.dK acc) ∧ PairR (VR K L' io' H'') acc da ∧ dcR gd tt tk tv (wipeE e vs) (ds.drop (i + 1)) S' da = .ok l S2), fun H'' h => h, fun x H2 y => ?_⟩
        obtain ⟨sr2, sp2, r2⟩ := hy x H2 y
        have fr2 := fr'.step sp2 sr2
        simp only [dcR] at hr
        cases hg : gd d (wipeE e vs) with
        | none => rw [hg] at hr; cases hr
        | some e' =>
          rw [hg] at hr
          simp only at hr
          refine ho L0 io0 H0 L' io' H2 (L2.wipe g vs) (wipeE e vs) S' x d e' _ fr2 r2 hg fun g' fr3 lg kg => ⟨?_, ?_⟩
          · exact (wipe_ext lg kg).trans (wipe_ext (L2.wipe_length g vs) fun k hk => by rw [wipe_get, if_neg hk])
          · cases ht : tt e' S' with
            | ex c fs S3 => rw [ht] at hr; cases hr
            | no => rw [ht] at hr; cases hr
            | ok b S3 =>
              rw [ht] at hr
              simp only at hr
              refine ⟨L0, io0, H0, L', io', e', S', fr3, ?_⟩
              rw [ht]
              intro b' H3 L3 io3 s3 sr3 eb
              subst eb
              have fr3' := fr2.step s3 sr3
              have sp3 := (sp.trans sp2 st0.sub).trans s3 st0.sub
              have sw3 := (sw.trans (sp2.stw fr'.st.sub)).trans (s3.stw fr2.st.sub)
              have l3 : L3 D := s3.up D (sp2.up D lD)
              have k2 : H2 D = some (.dK acc) := sp2.keep D _ hDa nD
              have n3 : D ∉ io3 := fun z => by
                rcases s3.hn D z with q | q
                · exact nD q
                · rw [q] at k2; cases k2
              have k3 : H3 D = some (.dK acc) := s3.keep D _ k2 nD
              have ra3 : PairR (VR K L3 io3 H3) acc da := (ra.mono fun v d r => r.step sp2 fr'.st.sub).mono fun v d r => r.step s3 fr2.st.sub
              cases b' with
              | false =>
                rw [if_neg Bool.false_ne_true] at hr
                refine iteF ⟨_, by omega, rfl, hlt, L3, io3, S3, acc, da, fr3', sp3, sw3, l3, n3, k3, ra3, hr⟩
              | true =>
                rw [if_pos rfl] at hr
                refine iteT ?_
                cases he : tk e' S3 with
                | ex c fs S4 => rw [he] at hr; cases hr
                | no => rw [he] at hr; cases hr
                | ok yk S4 =>
                  rw [he] at hr
                  simp only at hr
                  refine ⟨L0, io0, H0, L3, io3, e', S3, fr3.step s3 sr3, ?_⟩
                  rw [he]
                  intro y H4 L4 io4 s4 sr4 ry
                  have k4 : H4 D = some (.dK acc) := s4.keep D _ k3 n3
                  have l4 : L4 D := s4.up D l3
                  have n4 : D ∉ io4 := fun z => by
                    rcases s4.hn D z with q | q
                    · exact n3 q
                    · rw [q] at k3; cases k3
                  have fr4 := fr3'.step s4 sr4
                  have sp4 := sp3.trans s4 st0.sub
                  have sw4 := sw3.trans (s4.stw fr3'.st.sub)
                  have ra4 : PairR (VR K L4 io4 H4) acc da := ra3.mono fun v d r => r.step s4 fr3'.st.sub
                  cases hk : keyD yk with
                  | none => rw [hk] at hr; cases hr
                  | some k' =>
                    rw [hk] at hr
                    simp only at hr
                    cases hv : tv e' S4 with
                    | ex c fs S5 => rw [hv] at hr; cases hr
                    | no => rw [hv] at hr; cases hr
                    | ok yv S5 =>
                      rw [hv] at hr
                      simp only at hr
                      refine ⟨L0, io0, H0, L4, io4, e', S4, (fr3.step s3 sr3).step s4 sr4, ?_⟩
                      rw [hv]
                      intro z H5 L5 io5 s5 sr5 rz
                      have k5 : H5 D = some (.dK acc) := s5.keep D _ k4 n4
                      have l5 : L5 D := s5.up D l4
                      have n5 : D ∉ io5 := fun z => by
                        rcases s5.hn D z with q | q
                        · exact n4 q
                        · rw [q] at k4; cases k4
                      have fr5 := fr4.step s5 sr5
                      have sp5 := sp4.trans s5 st0.sub
                      have sw5 := sw4.trans (s5.stw fr4.st.sub)
                      have ra5 : PairR (VR K L5 io5 H5) acc da := ra4.mono fun v d r => r.step s5 fr4.st.sub
                      split at hr
                      · rename_i hz
                        have hlen : acc.length < sizeLine := by rw [PairR.len ra5]; exact hz
                        have frm : FR K L0 io0 H0 L5 io5 (upd H5 D (.dK (putK acc k' z))) (L2.wipe g vs) (wipeE e vs) S5 := by
                          refine fr5.mutD l5 n5 (fr1.fresh0 hD) fun j q' v1 v2 v3 hg' => ?_
                          obtain ⟨o, ho', _⟩ := (fr1.wipe vs).ownAt v1 v2 v3 hg'
                          exact ne_of_none ho' hD
                        refine ⟨acc, k', keyD_ok ry hk, k5, hlen, _, by omega, rfl, hlt, L5, io5, S5, putK acc k' z, putD da k' yv, frm, ?_, sw5.trans (Stw.mut l5), l5, n5, upd_same, (PairR.put ra5 rz).mono fun v d r => r.mut l5, hr⟩
                        exact ⟨sp5.pre, sp5.hn, sp5.new, fun a o h n => by rw [upd_ne (ne_of_none h hD)]; exact sp5.keep a o h n, sp5.up⟩
                      · cases hr
      · have ei : i = ds.length := by omega
        subst ei
        rw [List.drop_length] at hr
        cases hr
        refine .inl ⟨wk.stop L' io' H' sw, ?_⟩
        exact q _ H' L' io' sp fr'.st ⟨D, acc, rfl, hD, lD, nD, hDa, ra⟩
theorem rd_dc {K : PySem.W.Frag} {t : TG} (ho : TGok K t gd vs) {g : St} {H : Hp} {Q : VK} (q : rdD K W (dDc fi gd tt tk tv vs) g H Q) : tDc (rdi K W fi) t (rdt K W0 tt) (rd K W0 tk) (rd K W0 tv) vs g H Q := by
  obtain ⟨L0, io0, H0, L, io, e, S, fr, q⟩ := q
  exact FinI.bindD (k := kDc gd tt tk tv vs e) fr q fun L1 io1 H1 S1 ds J s1 fr1 wk q => dc_walk ho fr1 wk q
theorem qd_dc (hc : X.calm = true) (hN : X.N.Nodup) (hi : QI X W tg iter fi) (ok : BlkOk X.N X.env.scope scope own)
    (hg : ∀ (s : Shared) (H : Hp) (C : Addr) (cl : List (Str × Addr)) (fp : List Addr), QG (X.blk s H scope (compEnvC scope cl C X.env) fp) tg gd (own.map (·.2)))
    (ht : ∀ (s : Shared) (H : Hp) (C : Addr) (cl : List (Str × Addr)) (fp : List Addr), QTs (X.blk s H scope (compEnvC scope cl C X.env) fp) W0 ifs tt)
    (hk : ∀ (s : Shared) (H : Hp) (C : Addr) (cl : List (Str × Addr)) (fp : List Addr), QE (X.blk s H scope (compEnvC scope cl C X.env) fp) W0 kx tk)
    (he : ∀ (s : Shared) (H : Hp) (C : Addr) (cl : List (Str × Addr)) (fp : List Addr), QE (X.blk s H scope (compEnvC scope cl C X.env) fp) W0 vx tv) (hs : ∀ x, foldedSetIterable iter X.env x = pure x := by intro _; rfl) :
    QD X W (.DictComp kx vx [⟨tg, iter, ifs, 0⟩] scope pos) (dDc fi gd tt tk tv (own.map (·.2))) :=
  pe_imp (pe_dc (g := tgR X.K gd (own.map (·.2))) (tt := rdt X.K W0 tt) (tk := rd X.K W0 tk) (tv := rd X.K W0 tv) hc hN hi ok (fun s H C cl fp => (hg s H C cl fp).canon) ht hk he hs) fun g H Q q => rd_dc tgR_ok q
end
end DL
namespace DL
open PySem L2
def kGet (d k x : Dv) (S : Sto) : Res Dv := match asD S d with
  | some l => (match keyD k with
    | some k' => .ok ((valD l k').getD x) S
    | none => .no)
  | none => .no
def kGet1 (fk fx : DE) (e : Env) (d : Dv) (S : Sto) : Res Dv := if (asD S d).isSome = true then bnd (fk e S) (fun k S2 => bnd (fx e S2) fun x S3 => kGet d k x S3) else .no
def eGet2 (fd fk fx : DE) : DE := fun e S => bnd (fd e S) (kGet1 fk fx e)
section
variable {X : Cx} {W : WX} {o e f : Expr} {apos cpos pos : Pos} {fo fk fx f1 f2 : DE} {kk : Nat}
theorem qe_get2 (hr : Room kk X.A) (ho : QE X W o fo) (hk : QE X W e fk) (hx : QE X W f fx) (m : M2 X o "get" apos e f cpos := by exact ⟨rfl, rfl, rfl, rfl⟩) : QE X W (.Call (.Attribute o "get" apos) [e, f] [] cpos) (eGet2 fo fk fx) :=
  pe_imp (pe_dget2 (hu_of hr) ho hk hx m) fun g H Q q => by
  refine Rdg.bind (R := VR X.K) (k := kGet1 fk fx) q fun L0 io0 H0 L io H1 e S d v fr rv q => ?_
  unfold kGet1 at q
  split at q
  · rename_i hs
    obtain ⟨l, hl⟩ := Option.isSome_iff_exists.mp hs
    obtain ⟨a, kvs, rfl, e1, e2⟩ := asD_ok fr.st rv hl
    refine ⟨a, rfl, .inl ⟨kvs, e1⟩, ?_⟩
    refine Fin.bind (R := VR X.K) (k := fun k S2 => bnd (fx e S2) fun x S3 => kGet d k x S3) fr q fun L2 io2 H2 S2 k y s2 fr2 rk q => ?_
    refine Fin.bind (R := VR X.K) (k := fun x S3 => kGet d k x S3) fr2 q fun L3 io3 H3 S3 x z s3 fr3 rx q => ?_
    unfold kGet at q
    have rv3 := (rv.step s2 fr.st.sub).step s3 fr2.st.sub
    have rk3 := rk.step s3 fr2.st.sub
    cases h3 : asD S3 d with
    | none => rw [h3] at q; exact q.elim
    | some l3 =>
      rw [h3] at q
      obtain ⟨a3, kvs3, e0, e4, e5⟩ := asD_ok fr3.st rv3 h3
      cases e0
      cases hk : keyD k with
      | none => rw [hk] at q; exact q.elim
      | some k' =>
        rw [hk] at q
        refine ⟨valV kvs3 k', by rw [keyD_ok rk3 hk]; exact .inl ⟨kvs3, k', e4, rfl, rfl⟩, ?_⟩
        have q : Fin X.K W (VR X.K) g L3 io3 H3 Q (.ok ((valD l3 k').getD x) S3) := q
        cases hv : valD l3 k' with
        | none =>
          rw [hv] at q
          rw [(e5.val k').2 hv]
          exact q.ok1 fr3.st rx
        | some w =>
          rw [hv] at q
          obtain ⟨u, h6, h7⟩ := (e5.val k').1 w hv
          rw [h6]
          exact q.ok1 fr3.st h7
  · exact q.elim
def kPop (d k x : Dv) (S : Sto) : Res Dv := match d with
  | .hdl j => (match S[j]? with
    | some (.dct l) => (match keyD k with
      | some k' => (match valD l k' with
        | some v => .ok v (S.set j (.dct (dropD l k')))
        | none => .ok x S)
      | none => .no)
    | _ => .no)
  | _ => .no
def kPop1 (fk fx : DE) (e : Env) (d : Dv) (S : Sto) : Res Dv := if (asD S d).isSome = true then bnd (fk e S) (fun k S2 => bnd (fx e S2) fun x S3 => kPop d k x S3) else .no
def ePop2 (fd fk fx : DE) : DE := fun e S => bnd (fd e S) (kPop1 fk fx e)
theorem qe_pop2 (ho : QE X W o fo) (hk : QE X W e fk) (hx : QE X W f fx) (m : M2 X o "pop" apos e f cpos := by exact ⟨rfl, rfl, rfl, rfl⟩) : QE X W (.Call (.Attribute o "pop" apos) [e, f] [] cpos) (ePop2 fo fk fx) :=
  pe_imp (pe_dpop2 ho hk hx m) fun g H Q q => by
  refine Rdg.bind (R := VR X.K) (k := kPop1 fk fx) q fun L0 io0 H0 L io H1 e S d v fr rv q => ?_
  unfold kPop1 at q
  split at q
  · rename_i hs
    obtain ⟨l, hl⟩ := Option.isSome_iff_exists.mp hs
    obtain ⟨a, kvs, rfl, e1, e2⟩ := asD_ok fr.st rv hl
    refine ⟨a, rfl, .inl ⟨kvs, e1⟩, ?_⟩
    refine Fin.bind (R := VR X.K) (k := fun k S2 => bnd (fx e S2) fun x S3 => kPop d k x S3) fr q fun L2 io2 H2 S2 k y s2 fr2 rk q => ?_
    refine Fin.bind (R := VR X.K) (k := fun x S3 => kPop d k x S3) fr2 q fun L3 io3 H3 S3 x z s3 fr3 rx q => ?_
    have rv3 := (rv.step s2 fr.st.sub).step s3 fr2.st.sub
    have rk3 := rk.step s3 fr2.st.sub
    cases d with
    | hdl j =>
      simp only [kPop] at q
      cases h1 : S3[j]? with
      | none => rw [h1] at q; exact q.elim
      | some ob =>
        cases ob with
        | dct l3 =>
          rw [h1] at q
          simp only at q
          cases hk : keyD k with
          | none => rw [hk] at q; exact q.elim
          | some k' =>
            rw [hk] at q
            simp only at q
            cases rv3 with
            | hdl hj =>
              obtain ⟨kvs3, e4, e5⟩ := fr3.st.obj j a _ hj h1
              have lp : L3 a := fr3.st.sub a (List.mem_of_getElem? hj)
              refine ⟨kvs3, k', e4, keyD_ok rk3 hk, ?_, ?_⟩
              · intro w hw
                cases hv : valD l3 k' with
                | none => rw [(e5.val k').2 hv] at hw; cases hw
                | some w' =>
                  rw [hv] at q
                  obtain ⟨u, h6, h7⟩ := (e5.val k').1 w' hv
                  rw [h6] at hw
                  cases hw
                  have st : Stp L3 io3 H3 L3 io3 (upd H3 a (.dK (dropK kvs3 k'))) := Stp.mutH (List.mem_of_getElem? hj)
                  have sr := fr3.st.setH (ob := .dct (dropD l3 k')) (o := .dK (dropK kvs3 k')) hj ⟨_, upd_same, (PairR.drop k' e5).mono fun v d r => r.mut lp⟩
                  exact q _ _ L3 io3 st sr (h7.mut lp)
              · intro hw
                cases hv : valD l3 k' with
                | some w' => obtain ⟨u, h6, h7⟩ := (e5.val k').1 w' hv; rw [h6] at hw; cases hw
                | none =>
                  rw [hv] at q
                  exact q.ok1 fr3.st rx
        | _ => rw [h1] at q; exact q.elim
    | _ => exact q.elim
  · exact q.elim
def strKs : List (Key × Dv) → Option (List Str)
  | [] => some []
  | (.inr x, _) :: l => (strKs l).map (x :: ·)
  | _ :: _ => none
theorem strKs_ok {R : V → Dv → Prop} : ∀ {kvs : List (Key × V)} {l : List (Key × Dv)} {ks : List Str}, PairR R kvs l → strKs l = some ks → kvs.map (·.1) = ks.map Sum.inr
  | _, _, ks, .nil, h => by cases h; rfl
  | (k1, v) :: kvs, (k2, d) :: l, ks, .cons ⟨h1, h2⟩ t, h => by
    cases (show k1 = k2 from h1)
    cases k1 with
    | inl i => cases h
    | inr x =>
      simp only [strKs] at h
      obtain ⟨m, hq, rfl⟩ := map_ok h
      rw [List.map_cons, List.map_cons, strKs_ok t hq]
def srtDK (l : List Dv) (S : Sto) : Res (List Dv) := match l with
  | [d] => (match (asD S d).bind strKs with
    | some ks => if ks.length < 64 ∧ ks.Nodup then .ok ((TX.srtS ks).map Dv.str) S else .no
    | none => .no)
  | _ => .no
def fSrtD (fa : DA) : DL := fun e S => bnd (fa e S) srtDK
theorem qf_srtD {p : Pos} {fa : DA} (hm : X.mg "sorted" = none) (ha : QXs X W [e] fa) (hc : X.calm = true := by rfl) (hg : Gl X "sorted" := by rfl) (he : starEach [e] X.env = (false, eval e X.env) :: starEach [] X.env := by rfl) :
    QF X W (.Call (.Name "sorted" p) [e] [] pos) (fSrtD fa) :=
  pe_imp (pe_callB (call_sortedD hc) hg hm (by decide +kernel) ha (by decide) (by decide) he (by rfl)) fun g H Q q => by
  obtain ⟨L0, io0, H0, L, io, e, S, fr, q⟩ := q
  refine FinF.bind (R := VXs X.K) (k := srtDK) fr q fun L1 io1 H1 S1 l vs s1 fr1 rvs q => ?_
  unfold srtDK at q
  split at q
  · rename_i d
    cases h : (asD S1 d).bind strKs with
    | none => rw [h] at q; exact q.elim
    | some ks =>
      rw [h] at q
      simp only at q
      split at q
      · rename_i hl
        obtain ⟨m, hm, hks⟩ := Option.bind_eq_some_iff.mp h
        cases rvs with
        | cons r t =>
          cases t
          obtain ⟨a, kvs, rfl, e1, e2⟩ := asD_x fr1.st r hm
          refine ⟨a, kvs, ks, rfl, e1, strKs_ok e2 hks, hl.1, fun ys p hp hs hn => ?_⟩
          have ey : ys = TX.srtS ks := TX.srtS_uniq hs (hp.nodup_iff.mpr hl.2) fun k => hp.mem_iff
          subst ey
          exact q _ _ (Ly L1 p) io1 (Stp.newV hn) (fr1.st.newV hn) ⟨p, _, rfl, hn, .inr rfl, fun z => fr1.st.dom p (fr1.st.sub p z) hn, upd_same, vrs_strs _⟩
      · exact q.elim
  · exact q.elim
def keysK (l : List Dv) (S : Sto) : Res (List Dv) := match l with
  | [d] => (match asD S d with
    | some m => .ok (m.map fun q => dV q.1) S
    | none => .no)
  | _ => .no
def fKeys (fa : DA) : DL := fun e S => bnd (fa e S) keysK
theorem vr_kV {K : PySem.W.Frag} {L : Addr → Prop} {io : List Addr} {H : Hp} (k : Key) : VR K L io H (kV k) (dV k) := by
  cases k with
  | inl i => exact .int i
  | inr x => exact .str x
theorem keys_vrs {K : PySem.W.Frag} {L : Addr → Prop} {io : List Addr} {H : Hp} {R : V → Dv → Prop} : ∀ {kvs : List (Key × V)} {l : List (Key × Dv)}, PairR R kvs l → VRs K L io H (kvs.map fun kv => kV kv.1) (l.map fun q => dV q.1)
  | _, _, .nil => .nil
  | (k1, v) :: kvs, (k2, d) :: l, .cons ⟨h1, h2⟩ t => by
    cases (show k1 = k2 from h1)
    exact .cons (vr_kV k1) (keys_vrs t)
theorem qf_keys {p : Pos} {fa : DA} (hm : X.mg "list" = none) (ha : QXs X W [e] fa) (hc : X.calm = true := by rfl) (hg : Gl X "list" := by rfl) (he : starEach [e] X.env = (false, eval e X.env) :: starEach [] X.env := by rfl) :
    QF X W (.Call (.Name "list" p) [e] [] pos) (fKeys fa) :=
  pe_imp (pe_callTy (call_listD hc) hg hm (by decide +kernel) ha (by decide) (by decide) he (by rfl)) fun g H Q q => by
  obtain ⟨L0, io0, H0, L, io, e, S, fr, q⟩ := q
  refine FinF.bind (R := VXs X.K) (k := keysK) fr q fun L1 io1 H1 S1 l vs s1 fr1 rvs q => ?_
  unfold keysK at q
  split at q
  · rename_i d
    cases h : asD S1 d with
    | none => rw [h] at q; exact q.elim
    | some m =>
      rw [h] at q
      cases rvs with
      | cons r t =>
        cases t
        obtain ⟨a, kvs, rfl, e1, e2⟩ := asD_x fr1.st r h
        exact ⟨a, kvs, rfl, e1, fun p hn => q _ _ (Ly L1 p) io1 (Stp.newV hn) (fr1.st.newV hn) ⟨p, _, rfl, hn, .inr rfl, fun z => fr1.st.dom p (fr1.st.sub p z) hn, upd_same, keys_vrs e2⟩⟩
  · exact q.elim
def strVs : List (Key × Dv) → Option (List (Key × Str))
  | [] => some []
  | (k, .str x) :: l => (strVs l).map ((k, x) :: ·)
  | _ :: _ => none
def valS (l : List (Key × Str)) (k : Key) : Option Str := (l.find? fun kv => decide (kv.1 = k)).map (·.2)
def hitS (l : List (Key × Str)) (m : List (Key × Str)) : Bool := m.all fun q => match valS l q.1 with
  | some y => decide (q.2 = y)
  | none => false
def eqDs (neg : Bool) (S : Sto) (a b : Dv) : Option (Dv × Sto) := ((asD S a).bind strVs).bind fun l => ((asD S b).bind strVs).map fun m => (.bl (if neg then !((l.length == m.length) && hitS m l) else ((l.length == m.length) && hitS m l)), S)
def mkV (l : List (Key × Str)) : List (Key × V) := l.map fun q => (q.1, V.str q.2)
theorem strVs_ok {K : PySem.W.Frag} {L : Addr → Prop} {io : List Addr} {H : Hp} : ∀ {kvs : List (Key × V)} {l : List (Key × Dv)} {m : List (Key × Str)}, PairR (VR K L io H) kvs l → strVs l = some m → kvs = mkV m
  | _, _, m, .nil, h => by cases h; rfl
  | (k1, v) :: kvs, (k2, d) :: l, m, .cons ⟨h1, h2⟩ t, h => by
    cases (show k1 = k2 from h1)
    have h2 : VR K L io H v d := h2
    cases h2 <;> simp only [strVs] at h <;> try cases h
    obtain ⟨m', hq, rfl⟩ := map_ok h
    rw [strVs_ok t hq]
    rfl
theorem valV_mk (m : List (Key × Str)) (k : Key) : valV (mkV m) k = (valS m k).map V.str := by
  induction m with
  | nil => rfl
  | cons q m ih =>
    by_cases h : q.1 = k
    · show valV ((q.1, V.str q.2) :: mkV m) k = _
      rw [valV_pos h]
      simp [valS, h]
    · show valV ((q.1, V.str q.2) :: mkV m) k = _
      rw [valV_neg h, ih]
      simp [valS, h]
theorem hits_S {A : Around} {s : Shared} {m : List (Key × Str)} {vb : List (Key × Value)} (rb : KV (mkV m) vb) : ∀ {l : List (Key × Str)} {va : List (Key × Value)}, KV (mkV l) va → PySem.W.KeqHits A s vb va (hitS m l)
  | [], va, ra => by
    cases ra
    exact .nil
  | (k, x) :: l, va, ra => by
    unfold KV at ra
    cases ra with
    | @cons p q ps qs h t =>
      obtain ⟨k', v⟩ := q
      obtain ⟨h1, h2⟩ := h
      cases (show k = k' from h1)
      obtain ⟨tk, rfl⟩ := (show RelV (.str x) v from h2)
      have rr := rb.val k
      rw [valV_mk] at rr
      have ih := hits_S (A := A) (s := s) rb (l := l) t
      cases hv : valS m k with
      | none =>
        rw [hv] at rr
        have e : valueAt vb k = none := by
          cases hz : valueAt vb k with
          | none => rfl
          | some z => rw [hz] at rr; exact rr.elim
        have e2 : hitS m ((k, x) :: l) = false := by simp [hitS, hv]
        rw [e2]
        exact .miss e
      | some y =>
        rw [hv] at rr
        obtain ⟨u, hu, ru⟩ := rr.some_of
        obtain ⟨tk2, rfl⟩ := ru
        have e2 : hitS m ((k, x) :: l) = ((x == y) && hitS m l) := by
          have hb : (x == y) = decide (x = y) := by by_cases h : x = y <;> simp [h]
          simp [hitS, hv, hb]
        rw [e2]
        exact .hit hu (SeqAt.EqAt.str_str x tk y tk2) ih
def rEqDs (neg : Bool) : R2 := fun x y H Q => ∃ a b l m, x = .ref a ∧ y = .ref b ∧ Rd H a (.dK (mkV l)) ∧ Rd H b (.dK (mkV m)) ∧ Q (.bl (if neg then !((l.length == m.length) && hitS m l) else ((l.length == m.length) && hitS m l))) H
theorem op_eqDs (hu : X.A.units < cLine) : OpR X (compareOp .Eq) (rEqDs false) := by
  intro pins s σ H x y v u Q I rx ry h
  obtain ⟨a, b, l, m, rfl, rfl, ea, eb, q⟩ := h
  obtain rfl : v = Value.ref a := rx
  obtain rfl : u = Value.ref b := ry
  obtain ⟨_, ya, va, ra, da⟩ := dk_rd I.hok ea
  obtain ⟨_, yb, vb, rb, db⟩ := dk_rd I.hok eb
  have hl : va.length = l.length := by rw [← ra.length]; simp [mkV]
  have hl2 : vb.length = m.length := by rw [← rb.length]; simp [mkV]
  exact PySem.W.keq_eq (knd := mixKind X.prog X.w) (r := hitS m l) ya yb da db hu (fun _ => hits_S rb ra) (by rw [hl, hl2]; exact ⟨.bl _, H, I, rfl, q⟩)
theorem ops_eqDs {K : PySem.W.Frag} {neg : Bool} : OpS K (rEqDs neg) (eqDs neg) := by
  intro L io H S x y a b d S' Q sr ra rb e q
  unfold eqDs at e
  cases h1 : (asD S a).bind strVs with
  | none => rw [h1] at e; cases e
  | some l =>
    rw [h1] at e
    simp only [Option.bind_some] at e
    cases h2 : (asD S b).bind strVs with
    | none => rw [h2] at e; cases e
    | some m =>
      rw [h2] at e
      cases e
      obtain ⟨l0, hl, hl2⟩ := Option.bind_eq_some_iff.mp h1
      obtain ⟨m0, hm, hm2⟩ := Option.bind_eq_some_iff.mp h2
      obtain ⟨p, kvs, rfl, e1, e2⟩ := asD_x sr ra hl
      obtain ⟨p2, kvs2, rfl, e3, e4⟩ := asD_x sr rb hm
      have z1 := strVs_ok e2 hl2
      have z2 := strVs_ok e4 hm2
      subst z1 z2
      exact ⟨p, p2, l, m, rfl, rfl, e1, e3, q _ H L io (Stp.refl ..) sr (.bl _)⟩
theorem qe_eqDs (hr : Room kk X.A) (ha : QX X W e f1) (hb : QX X W f f2) : QE X W (.Compare e [.Eq] [f] pos) (eBin (eqDs false) f1 f2) := qe_cmp (op_eqDs hr.units0) ops_eqDs ha hb
end
end DL
namespace DL
open PySem L2
/-- what the text says of a class with own operators -/
structure OwF (K : PySem.W.Frag) (C : Addr) : Prop where
  nq : PySem.W.noSeq K C = true
  sf : PySem.W.selfFirst K C = true
def owfB (c : Str) : Ft := .any fun K => PySem.W.noSeq K (He.ga K c) && PySem.W.selfFirst K (He.ga K c)
theorem owf_f {K : PySem.W.Frag} {c : Str} (h : (owfB c).ok K = true) : OwF K (He.ga K c) := by
  obtain ⟨h1, h2⟩ := He.ba (show (PySem.W.noSeq K (He.ga K c) && PySem.W.selfFirst K (He.ga K c)) = true from h)
  exact ⟨h1, h2⟩
def kSubP (c : Str) (g : DF) (d i : Dv) (S : Sto) : Res Dv := match insOf S d with
  | some (c', _) => if c' = c then g S [d, i] else .no
  | none => .no
def kSub1 (c : Str) (g : DF) (fi : DE) (e : Env) (d : Dv) (S : Sto) : Res Dv := bnd (fi e S) (kSubP c g d)
def eSubO (c : Str) (g : DF) (fo fi : DE) : DE := fun e S => bnd (fo e S) (kSub1 c g fi e)
section
variable {X : Cx} {W : WX} {pos p tpos : Pos} {o i a b : Expr} {c : Str} {fo fi fv f1 f2 : DE} {g : DF} {k : Nat}
theorem dvs_nil {K : PySem.W.Frag} {dvs : List V} (hd : ∀ L io H, VRs K L io H dvs []) : dvs = [] := by
  have := hd (fun _ => False) [] (fun _ => none)
  cases this; rfl
theorem meth_same {K : PySem.W.Frag} {C f f' : Addr} {m : Str} (h : Meth K C m f) (h' : Meth K C m f') : f = f' := by
  have := h.at_.symm.trans h'.at_
  injection this with h1
  injection h1 with h2
  injection h2
theorem qe_subO (F : FM X.prog X.w X.K X.mg X.base k c "__getitem__" [] g) (hm0 : Meth X.K (He.ga X.K c) "__getitem__" (He.ma X.K (He.ga X.K c) "__getitem__")) (hfn : PySem.W.fnIn X.K (He.ma X.K (He.ga X.K c) "__getitem__") = true) (hr : RoomG (k + 1) X.A) (tk : Takes X W) (ho : QE X W o fo) (hi : QE X W i fi)
    (hsl : ∀ x iv, subscripted i true (.ref x) iv = runValue (.builtin "lifetime.subscript" ⟨[.ref x, iv], []⟩) := by intros; with_unfolding_all rfl) : QE X W (.Subscript o i pos) (eSubO c g fo fi) := by
  obtain ⟨f, fd, ps, ds, dvs, F, hc, hm, hb, hvd, hd⟩ := F
  have dn := dvs_nil hd
  subst dn
  have ef := meth_same hm hm0
  subst ef
  refine ⟨fun pins s σ H Q I q => ?_⟩
  have q2 : (rd X.K W fo) σ H fun v H1 => (rd X.K W fi) σ H1 fun y H2 => ∃ a dx fs, v = .ref a ∧ H2 a = some (.ins (He.ga X.K c) dx fs) ∧ spD X.K g [.ref a, y] H2 Q (fun c d H' => W c d σ H') := by
    refine Rdg.bind (R := VR X.K) (k := kSub1 c g fi) q fun L0 io0 H0 L io H1 ev S d v fr rv q1 => ?_
    refine Fin.bind (R := VR X.K) (k := kSubP c g d) fr q1 fun L2' io2 H2 S2 di y s2 fr2 r2 q3 => ?_
    have rv2 := rv.step s2 fr.st.sub
    unfold kSubP at q3
    cases h1 : insOf S2 d with
    | none => rw [h1] at q3; exact q3.elim
    | some z =>
      obtain ⟨c', fs⟩ := z
      rw [h1] at q3
      simp only at q3
      split at q3
      · rename_i hc'
        subst hc'
        obtain ⟨p, dx, vs, rfl, e1⟩ := insOf_ty fr2.st (.inl rv2) h1
        exact ⟨p, dx, vs, rfl, e1, spD_fin fr2.st (.cons rv2 (.cons r2 .nil)) q3⟩
      · exact q3.elim
  refine PyProof.Rows.Subscript_ (thn (ho.run pins s σ H _ I q2) fun u s1 ⟨v, H1, I1, r1, q3⟩ => thn (hi.run pins s1 σ H1 _ I1 q3) fun w s2 ⟨y, H2, I2, r2, a, dx, fs, ev, ea, q4⟩ => ?_)
  subst ev
  cases (show u = Value.ref a from r1)
  obtain ⟨mA, J, _⟩ := ins_get I2.hok ea
  obtain ⟨od, J, _⟩ := J.look
  obtain ⟨m, hF⟩ := I2.fr
  exact PySem.W.sub_K hF I2.ok.mod.kin J hm.at_ hfn hm.fn (run_gA (A := X.A.in1) (us := [.ref a, w]) (vs := [.ref a, y]) rfl F hr.in1 hb hvd tk I2 (.cons rfl (.cons r2 .nil)) (by rw [List.append_nil]; exact q4)) (hsl a w)
def kPutO (c : Str) (g : DF) (o v : Dv) (e : Env) (i : Dv) (S : Sto) : Out := match insOf S o with
  | some (c', _) => if c' = c then (match g S [o, i, v] with
    | .ok _ S' => .nx e S'
    | _ => .no) else .no
  | none => .no
def sPutO (c : Str) (g : DF) (fo fi fv : DE) : DS := sBind fv fun e v S1 => sBind fo (fun e o S2 => sBind fi (kPutO c g o v) e S2) e S1
def rPutO (K : PySem.W.Frag) (c : Str) (g : DF) : TSet := fun o i v H Q => ∃ a dx fs, o = .ref a ∧ H a = some (.ins (He.ga K c) dx fs) ∧ spD K g [o, i, v] H (fun _ H' => Q H') (fun _ _ _ => False)
theorem set_own (F : FM X.prog X.w X.K X.mg X.base k c "__setitem__" [] g) (hO : OwF X.K (He.ga X.K c)) (hr : RoomG (k + 1) X.A) : PSet X (rPutO X.K c g) := by
  rintro pins s σ H o i v ov iv u Q I ro ri rv ⟨a, dx, fs, rfl, ha, hsp⟩
  cases (show ov = Value.ref a from ro)
  obtain ⟨f, fd, ps, ds, dvs, F, hc, hm, hb, hv, hd⟩ := F
  obtain ⟨mA, J, _⟩ := ins_get I.hok ha
  obtain ⟨od, J, _⟩ := J.look
  obtain ⟨mm, hF⟩ := I.fr
  have dn := dvs_nil hd
  subst dn
  refine PySem.W.ksp_setItem hF I.ok.mod.kin J hO.nq hm.at_ hm.fn (thn (run_g (us := [.ref a, iv, u]) (vs := [.ref a, i, v]) F hr.low hb hv takesW0 I (.cons rfl (.cons ri (.cons rv .nil))) (by rw [List.append_nil]; exact hsp)) fun w s' z => ?_)
  obtain ⟨z, H', I', rz, q⟩ := z
  exact ⟨H', I', q⟩
theorem qs_putO (F : FM X.prog X.w X.K X.mg X.base k c "__setitem__" [] g) (hO : OwF X.K (He.ga X.K c)) (hr : RoomG (k + 1) X.A) (ho : QE X W o fo) (hi : QE X W i fi) (hv : QE X W a fv)
    (hp : ∀ {to ti tv t}, PSet X t → PE X o to → PE X i ti → PE X a tv → PS X (.Assign [.Subscript o i tpos] a pos) (tAsg tv (gSub to ti t)) := by intro _ _ _ _ h0 h1 h2 h3; exact ps_asg h3 (pg_sub h1 h2 h0)) : QS X W (.Assign [.Subscript o i tpos] a pos) (sPutO c g fo fi fv) := ps_imp (hp (set_own F hO hr) ho hi hv) fun D st H h => by
  refine rds_bind (R := VR X.K) (k := fun e v S1 => sBind fo (fun e o S2 => sBind fi (kPutO c g o v) e S2) e S1) h fun L0 io0 H0 L io H1 e S d v fr rv q => ?_
  refine outR.bind (R := VR X.K) (k := fun e o S2 => sBind fi (kPutO c g o d) e S2) fr q fun L2' io2 H2 S2 od vo s2 fr2 ro qb => ?_
  refine outR.bind (R := VR X.K) (k := kPutO c g od d) fr2 qb fun L3 io3 H3 S3 id vi s3 fr3 ri qc => ?_
  unfold kPutO at qc
  have ro3 := ro.step s3 fr2.st.sub
  have rv3 := (rv.step s2 fr.st.sub).step s3 fr2.st.sub
  cases h1 : insOf S3 od with
  | none => rw [h1] at qc; exact qc.elim
  | some z =>
    obtain ⟨c', fs⟩ := z
    rw [h1] at qc
    simp only at qc
    split at qc
    · rename_i hc'
      subst hc'
      obtain ⟨p, dx, vs, rfl, e1⟩ := insOf_ty fr3.st (.inl ro3) h1
      refine ⟨p, dx, vs, rfl, e1, L3, io3, S3, [od, id, d], fr3.st, .cons ro3 (.cons ri (.cons rv3 .nil)), ?_⟩
      cases hg : g S3 [od, id, d] with
      | ex cc fs S' => rw [hg] at qc; exact qc.elim
      | no => rw [hg] at qc; exact qc.elim
      | ok dd S' =>
        rw [hg] at qc
        intro v H' io' s sr r
        exact qc st H' _ io' (s.stw fr3.st.sub) (fr3.step s sr)
    · exact qc.elim
end
end DL
namespace DL
open PySem L2
def frzN : Nat → Sto → Dv → Dv
  | n + 1, S, .hdl k => (match S[k]? with
    | some (.lst l) => .lst (l.map (frzN n S))
    | some (.dct l) => .dic (l.map fun q => (q.1, frzN n S q.2))
    | some (.ins c fs) => .obj c (fs.map fun q => (q.1, frzN n S q.2))
    | none => .hdl k)
  | _, _, d => d
abbrev L00 : Addr → Prop := fun _ => False
section
variable {K : PySem.W.Frag} {L : Addr → Prop} {io : List Addr} {H : Hp} {S : Sto}
theorem noh_all {v : V} {d : Dv} (r : VR K L io H v d) (h : noH d = true) : VR K L00 [] H v d := VR.noh (fun a o e _ => ⟨e, fun z => z⟩) r h
theorem frzs_ok (n : Nat) (ih : ∀ (d : Dv) (v : V), VR K L io H v d → noH (frzN n S d) = true → VR K L00 [] H v (frzN n S d)) : ∀ (l : List Dv) (vs : List V), VRs K L io H vs l → noHs (l.map (frzN n S)) = true → VRs K L00 [] H vs (l.map (frzN n S))
  | [], _, .nil, _ => .nil
  | d :: l, _, .cons h t, e => by
    simp only [List.map_cons, noHs, Bool.and_eq_true] at e
    exact .cons (ih d _ h e.1) (frzs_ok n ih l _ t e.2)
theorem frzp_ok (n : Nat) (ih : ∀ (d : Dv) (v : V), VR K L io H v d → noH (frzN n S d) = true → VR K L00 [] H v (frzN n S d)) : ∀ (l : List (Key × Dv)) (vs : List (Key × V)), PairR (VR K L io H) vs l → noHp (l.map fun q => (q.1, frzN n S q.2)) = true → PairR (VR K L00 [] H) vs (l.map fun q => (q.1, frzN n S q.2))
  | [], _, .nil, _ => .nil
  | (k2, d) :: l, (k1, v) :: vs, .cons ⟨h1, h2⟩ t, e => by
    simp only [List.map_cons, noHp, Bool.and_eq_true] at e
    exact .cons ⟨h1, ih d v h2 e.1⟩ (frzp_ok n ih l vs t e.2)
theorem frzf_ok (n : Nat) (ih : ∀ (d : Dv) (v : V), VR K L io H v d → noH (frzN n S d) = true → VR K L00 [] H v (frzN n S d)) : ∀ (l : List (Str × Dv)) (vs : List (Str × V)), PairR (VR K L io H) vs l → noHf (l.map fun q => (q.1, frzN n S q.2)) = true → PairR (VR K L00 [] H) vs (l.map fun q => (q.1, frzN n S q.2))
  | [], _, .nil, _ => .nil
  | (k2, d) :: l, (k1, v) :: vs, .cons ⟨h1, h2⟩ t, e => by
    simp only [List.map_cons, noHf, Bool.and_eq_true] at e
    exact .cons ⟨h1, ih d v h2 e.1⟩ (frzf_ok n ih l vs t e.2)
theorem frzN_ok (sr : SR K L io H S) : ∀ (n : Nat) (d : Dv) (v : V), VR K L io H v d → noH (frzN n S d) = true → VR K L00 [] H v (frzN n S d)
  | 0, d, v, r, e => by
    cases d <;> exact noh_all r e
  | n + 1, .hdl k, v, r, e => by
    cases r with
    | hdl hk =>
      rename_i a
      cases q : S[k]? with
      | none => simp only [frzN, q, noH] at e; cases e
      | some o =>
        cases o with
        | lst l =>
          simp only [frzN, q, noH] at e ⊢
          obtain ⟨xs, h, t⟩ := sr.obj k a _ hk q
          exact .lst (fun z => z) h (frzs_ok n (frzN_ok sr n) l xs t e)
        | dct l =>
          simp only [frzN, q, noH] at e ⊢
          obtain ⟨xs, h, t⟩ := sr.obj k a _ hk q
          exact .dic (fun z => z) (.inl h) (frzp_ok n (frzN_ok sr n) l xs t e).vrp
        | ins c fs =>
          simp only [frzN, q, noH] at e ⊢
          obtain ⟨dx, xs, h, t⟩ := sr.obj k a _ hk q
          exact .obj (fun z => z) h (vrf_of (frzf_ok n (frzN_ok sr n) fs xs t e))
  | n + 1, .non, v, r, e => noh_all r e
  | n + 1, .bl _, v, r, e => noh_all r e
  | n + 1, .int _, v, r, e => noh_all r e
  | n + 1, .str _, v, r, e => noh_all r e
  | n + 1, .tup _, v, r, e => noh_all r e
  | n + 1, .lst _, v, r, e => noh_all r e
  | n + 1, .rol _, v, r, e => noh_all r e
  | n + 1, .dic _, v, r, e => noh_all r e
  | n + 1, .obj _ _, v, r, e => noh_all r e
  | n + 1, .glo _, v, r, e => noh_all r e
  | n + 1, .ty _, v, r, e => noh_all r e
/-- dicts are locked -/
theorem VR.lock {H' : Hp} (hl : ∀ b o, H b = some o → H' b = some o ∨ ∃ kvs od, o = .dK kvs ∧ H' b = some (.frz od o)) {v : V} {d : Dv} (h : VR K L00 [] H v d) : VR K L00 [] H' v d := by
  have rdl : ∀ {a : Addr} {xs : List V}, Rd H a (.lst xs) → Rd H' a (.lst xs) := fun {a xs} r => by
    rcases r with r | ⟨o, r⟩
    · rcases hl a _ r with z | ⟨kvs, od, z, _⟩
      · exact .inl z
      · cases z
    · rcases hl a _ r with z | ⟨kvs, od, z, _⟩
      · exact .inr ⟨o, z⟩
      · cases z
  have rdd : ∀ {a : Addr} {kvs : List (Key × V)}, Rd H a (.dK kvs) → Rd H' a (.dK kvs) := fun {a kvs} r => by
    rcases r with r | ⟨o, r⟩
    · rcases hl a _ r with z | ⟨kvs, od, z, z2⟩
      · exact .inl z
      · exact .inr ⟨od, z2⟩
    · rcases hl a _ r with z | ⟨kvs, od, z, _⟩
      · exact .inr ⟨o, z⟩
      · cases z
  refine VR.rec (motive_1 := fun v d _ => VR K L00 [] H' v d) (motive_2 := fun vs ds _ => VRs K L00 [] H' vs ds) (motive_3 := fun vs ds _ => VRp K L00 [] H' vs ds) (motive_4 := fun vs ds _ => VRf K L00 [] H' vs ds) ?_ ?_ ?_ ?_ ?_ ?_ ?_ ?_ ?_ ?_ ?_ ?_ ?_ ?_ ?_ ?_ ?_ ?_ ?_ ?_ h
  · exact .non
  · exact fun b => .bl b
  · exact fun i => .int i
  · exact fun x => .str x
  · intro a xs ds nl e _ ih
    rcases hl a _ e with z | ⟨kvs, od, z, _⟩
    · exact .tup nl z ih
    · cases z
  · exact fun h _ ih => .tupK h ih
  · intro a xs ds nl e _ ih
    rcases hl a _ e with z | ⟨kvs, od, z, _⟩
    · exact .lst nl z ih
    · cases z
  · intro a xs ds nl r _ ih
    exact .rol nl (rdl r) ih
  · exact fun h _ ih => .rolK h ih
  · intro a xs ds nl r _ ih
    exact .dic nl (rdd r) ih
  · intro a dx c vs fs nl e _ ih
    rcases hl a _ e with z | ⟨kvs, od, z, _⟩
    · exact .obj nl z ih
    · cases z
  · exact fun h => .hdl h
  · exact fun x => .glo x
  · exact fun n => .ty n
  · exact .nil
  · exact fun _ _ h1 h2 => .cons h1 h2
  · exact .nil
  · exact fun _ _ h1 h2 => .cons h1 h2
  · exact .nil
  · exact fun _ _ h1 h2 => .cons h1 h2
def vwS (S : Sto) : Sl → Sl
  | .va d => if noH (frzN 4 S d) = true then .va (frzN 4 S d) else .no
  | _ => .no
def vwE (S : Sto) (e : Env) : Env := e.map (vwS S)
theorem sr00 (H : Hp) : SR K L00 [] H [] where
  len := rfl
  nd := List.nodup_nil
  sub := fun _ h => by simp at h
  dom := fun _ h => h.elim
  obj := fun k a o h => by simp at h
/-- the view's frame, dicts locked or not -/
theorem FR.view {L0 : Addr → Prop} {io0 : List Addr} {H0 H' : Hp} {g : St} {e : Env} (fr : FR K L0 io0 H0 L io H g e S) (hl : ∀ b o, H b = some o → H' b = some o ∨ ∃ kvs od, o = .dK kvs ∧ H' b = some (.frz od o)) : FR K L00 [] H' L00 [] H' g (vwE S e) [] where
  st := sr00 H'
  len := by simp only [vwE, List.length_map]; exact fr.len
  va := fun i d h => by
    simp only [vwE, List.getElem?_map] at h
    cases he : e[i]? with
    | none => rw [he] at h; cases h
    | some sl =>
      rw [he] at h
      cases sl with
      | va d' =>
        simp only [Option.map_some, vwS] at h
        split at h
        · rename_i hn
          cases h
          obtain ⟨v, h1, h2⟩ := fr.va i d' he
          exact ⟨v, h1, VR.lock hl (frzN_ok fr.st 4 d' v h2 hn)⟩
        · cases h
      | no => cases h
      | own o => cases h
  own := fun i o h => by
    simp only [vwE, List.getElem?_map] at h
    cases he : e[i]? with
    | none => rw [he] at h; cases h
    | some sl =>
      rw [he] at h
      cases sl with
      | va d' =>
        simp only [Option.map_some, vwS] at h
        split at h <;> cases h
      | no => cases h
      | own o => cases h
  inj := fun i j p _ v1 _ v2 _ hg _ => by
    simp only [vwE, List.getElem?_map] at v1 v2
    cases he : e[i]? with
    | none =>
      have : g[i]? = none := by
        rw [List.getElem?_eq_none_iff] at he ⊢
        rw [fr.len]; exact he
      rw [this] at hg
      cases hg
    | some sl =>
      rw [he] at v1 v2
      cases sl with
      | va d' =>
        simp only [Option.map_some, vwS] at v1 v2
        split at v1
        · exact v1 _ rfl
        · rename_i hn; rw [if_neg hn] at v2; exact v2 rfl
      | no => exact v2 rfl
      | own o => exact v2 rfl
  en := Stp.refl ..
  sub0 := fun _ h => by simp at h
  dom0 := fun _ h => h.elim
end
end DL
namespace DL
open PySem L2
section
variable {K : PySem.W.Frag} {L0 L : Addr → Prop} {io0 io : List Addr} {H0 H : Hp} {g g' : St} {e : Env} {S : Sto}
theorem FR.same (fr : FR K L0 io0 H0 L io H g e S) (hl : g'.length = g.length) (h : ∀ i : Nat, (∃ s : Sl, e[i]? = some s ∧ s ≠ Sl.no) → g'[i]? = g[i]?) : FR K L0 io0 H0 L io H g' e S where
  st := fr.st
  len := hl.trans fr.len
  va := fun i d he => by
    obtain ⟨v, h1, h2⟩ := fr.va i d he
    exact ⟨v, (h i ⟨_, he, fun z => nomatch z⟩).trans h1, h2⟩
  own := fun i o he => by
    obtain ⟨p, h1, h2⟩ := fr.own i o he
    exact ⟨p, (h i ⟨_, he, fun z => nomatch z⟩).trans h1, h2⟩
  inj := fun i j p hij v1 v2 n1 n2 hi hj => by
    have iin : ∀ k : Nat, e[k]? ≠ some Sl.no → g'[k]? = some (some (V.ref p)) → g'[k]? = g[k]? := fun k hk hgk => by
      cases hek : e[k]? with
      | none =>
        have : e.length ≤ k := List.getElem?_eq_none_iff.mp hek
        have h2 : g'[k]? = none := List.getElem?_eq_none_iff.mpr (by rw [hl, fr.len]; exact this)
        rw [h2] at hgk; cases hgk
      | some s => exact h k ⟨s, hek, fun z => hk (by rw [hek, z])⟩
    exact fr.inj i j p hij v1 v2 n1 n2 ((iin i n1 hi).symm.trans hi) ((iin j n2 hj).symm.trans hj)
  en := fr.en
  sub0 := fr.sub0
  dom0 := fr.dom0
theorem wipeE_get (e : Env) : ∀ (vs : List Nat) (i : Nat) (s : Sl), (wipeE e vs)[i]? = some s → s ≠ Sl.no → i ∉ vs
  | [], i, s, _, _ => by simp
  | v :: vs, i, s, h, n => by
    unfold wipeE at h
    by_cases hv : v = i
    · subst hv
      rw [List.getElem?_set, if_pos rfl] at h
      by_cases hl : v < (wipeE e vs).length
      · rw [if_pos hl] at h; cases h; exact absurd rfl n
      · rw [if_neg hl] at h; cases h
    · rw [List.getElem?_set, if_neg hv] at h
      have := wipeE_get e vs i s h n
      intro z
      rcases List.mem_cons.mp z with z | z
      · exact hv z.symm
      · exact this z
theorem FR.wiped (fr : FR K L0 io0 H0 L io H g e S) {vs : List Nat} (hl : g'.length = g.length) (h : ∀ k, k ∉ vs → g'[k]? = g[k]?) : FR K L0 io0 H0 L io H g' (wipeE e vs) S := by
  refine (fr.wipe vs).same (by rw [hl, L2.wipe_length]) fun i ⟨s, h1, h2⟩ => ?_
  have hn := wipeE_get e vs i s h1 h2
  rw [h i hn, wipe_get, if_neg hn]
end
def itmOk (gd : DG) (t : DT) : List Dv → Env → Bool
  | [], _ => true
  | q :: l, e => match gd q e with
    | some e' => (match t e' [] with
      | .ok false [] => itmOk gd t l e'
      | _ => false)
    | none => false
def itmL (l : List (Key × Dv)) : List Dv := l.map fun q => .tup [dV q.1, q.2]
def kItems (vs : List Nat) (gd : DG) (t : DT) (e : Env) (S : Sto) (l : List (Key × Dv)) : Out := if (strVs l).isSome = true ∧ itmOk gd t (itmL l) (vwE S e) = true then .nx (wipeE e vs) S else .no
def sItems (i : Nat) (vs : List Nat) (gd : DG) (t : DT) : DS := fun e S => match e[i]? with
  | some (.va d) => (match asD S d with
    | some l => kItems vs gd t e S l
    | none => .no)
  | _ => .no
theorem walk_items {K : PySem.W.Frag} {H : Hp} {a : Addr} {od : Obj} {kvs : List (Key × V)} {l : List (Key × Dv)} {ms : List (Key × Str)} (hd : H a = some (.frz od (.dK kvs))) (hm : strVs l = some ms) (hk : kvs = mkV ms) : WalkR K L00 [] H (Iti a od kvs) (itmL l) where
  go := fun L1 io1 H1 S i d s sr h => by
    have h1 := s.keep a _ hd (fun z => z)
    have hlen : ∀ (l : List (Key × Dv)) (ms : List (Key × Str)), strVs l = some ms → ms.length = l.length ∧ ∀ (i : Nat) (q : Key × Dv), l[i]? = some q → ∃ z : Str, ms[i]? = some (q.1, z) ∧ q.2 = Dv.str z := by
      intro l
      induction l with
      | nil => intro ms h; cases h; exact ⟨rfl, fun i q h => by simp at h⟩
      | cons q l ih =>
        intro ms h
        obtain ⟨k, d⟩ := q
        cases d <;> simp only [strVs] at h <;> try cases h
        obtain ⟨m', hq, rfl⟩ := map_ok h
        obtain ⟨i1, i2⟩ := ih m' hq
        refine ⟨by simp [i1], fun i q h => ?_⟩
        cases i with
        | zero => simp at h; subst h; exact ⟨_, rfl, rfl⟩
        | succ i => simp at h; simpa using i2 i q h
    obtain ⟨i1, i2⟩ := hlen l ms hm
    have hi : i < l.length := by
      have := (List.getElem?_eq_some_iff.mp h).1
      simpa [itmL] using this
    refine ⟨⟨h1, by rw [hk]; simp [mkV, i1, hi]⟩, fun x H2 ⟨T, k, v, ek, ex, hT, eh⟩ => ?_⟩
    subst ex eh
    obtain ⟨z, z1, z2⟩ := i2 i l[i] (List.getElem?_eq_getElem hi)
    have ed : d = .tup [dV l[i].1, l[i].2] := by
      simp only [itmL, List.getElem?_map, List.getElem?_eq_getElem hi, Option.map_some] at h
      cases h; rfl
    have ekv : k = l[i].1 ∧ v = .str z := by
      rw [hk] at ek
      simp only [mkV, List.getElem?_map, z1, Option.map_some] at ek
      cases ek; exact ⟨rfl, rfl⟩
    obtain ⟨rfl, rfl⟩ := ekv
    have hnL : ¬ L1 T := fun z => sr.dom T z hT
    refine ⟨?_, ⟨⟨[], by simp⟩, fun _ h => .inl h, fun _ h => .inl h, fun b o e _ => ?_, fun _ h => h⟩, ?_⟩
    · exact ⟨sr.len, sr.nd, sr.sub, fun b hb => by by_cases q : b = T; (· rw [q, upd_same]; exact fun z => nomatch z); (· rw [upd_ne q]; exact sr.dom b hb), fun k b o e1 e2 => (sr.obj k b o e1 e2).mono (fun u e => by rw [upd_ne (fun z => by rw [z, hT] at e; cases e)]; exact e) fun v d r => VR.on (fun _ _ h => h) (fun a o e n => ⟨by rw [upd_ne (fun z => by rw [z, hT] at e; cases e)]; exact e, n⟩) r⟩
    · rw [upd_ne (fun z => by rw [z, hT] at e; cases e)]; exact e
    · rw [ed, z2]
      exact .tup hnL upd_same (.cons (vr_kV _) (.cons (.str z) .nil))
  stop := fun L1 io1 H1 s => by
    have h1 := s.keep a _ hd (fun z => z)
    have hlen : ∀ (l : List (Key × Dv)) (ms : List (Key × Str)), strVs l = some ms → ms.length = l.length := by
      intro l
      induction l with
      | nil => intro ms h; cases h; rfl
      | cons q l ih =>
        intro ms h
        obtain ⟨k, d⟩ := q
        cases d <;> simp only [strVs] at h <;> try cases h
        obtain ⟨m', hq, rfl⟩ := map_ok h
        simp [ih m' hq]
    exact ⟨h1, by rw [hk]; simp [mkV, itmL, hlen l ms hm]⟩
theorem rd_itemsA {K : PySem.W.Frag} {W : WX} {gd : DG} {t : DT} {vs : List Nat} {D : Ends} {g : St} {H0 : Hp} {a : Addr} {od : Obj} {kvs : List (Key × V)} {l : List (Key × Dv)} {i : Nat} {e : Env} {ms : List (Key × Str)} (gv : g[i]? = some (some (.ref a))) (hd : H0 a = some (.frz od (.dK kvs))) (hm : strVs l = some ms) (hk : kvs = mkV ms)
    (fr : FR K L00 [] H0 L00 [] H0 g e []) (hall : itmOk gd t (itmL l) e = true)
    (q : ∀ (g' : St) (L' : Addr → Prop) (H' : Hp), Stw L00 [] H0 L' [] H' → g'.length = g.length → (∀ k, k ∉ vs → g'[k]? = g[k]?) → D.nx g' H') : tFor (iItems (tVar i)) (tgR K gd vs) (tIfS (rdt K W t) L2.tNever (fun D g H => D.nx g H)) D g H0 := by
  have wk := walk_items (K := K) hd hm hk
  refine ⟨.ref a, gv, a, od, kvs, rfl, hd, ?_⟩
  refine ⟨fun i m g' H' => m = (itmL l).length - i ∧ i ≤ (itmL l).length ∧ ∃ (L' : Addr → Prop) (e' : Env), FR K L00 [] H0 L' [] H' g' e' [] ∧ Stw L00 [] H0 L' [] H' ∧ itmOk gd t ((itmL l).drop i) e' = true ∧ g'.length = g.length ∧ ∀ k, k ∉ vs → g'[k]? = g[k]?,
    ⟨(itmL l).length, by simp, Nat.zero_le _, L00, e, fr, Stw.refl .., by rw [List.drop_zero]; exact hall, rfl, fun _ _ => rfl⟩, ?_⟩
  rintro i m g' H' ⟨rfl, hi, L', e', fr', sw, hok, hl, hg⟩
  by_cases hlt : i < (itmL l).length
  · obtain ⟨d, hdd⟩ : ∃ d, (itmL l)[i]? = some d := ⟨_, List.getElem?_eq_getElem hlt⟩
    have hdrop : (itmL l).drop i = d :: (itmL l).drop (i + 1) := by
      rw [List.drop_eq_getElem_cons hlt]
      rw [List.getElem?_eq_getElem hlt] at hdd
      cases hdd
      rfl
    rw [hdrop] at hok
    obtain ⟨hgo, hy⟩ := wk.go L' [] H' [] i d sw fr'.st hdd
    refine .inr ⟨hgo, fun g'' H'' => ∃ m', m' < (itmL l).length - i ∧ (m' = (itmL l).length - (i + 1) ∧ i + 1 ≤ (itmL l).length ∧ ∃ (L' : Addr → Prop) (e' : Env), FR K L00 [] H0 L' [] H'' g'' e' [] ∧ Stw L00 [] H0 L' [] H'' ∧ itmOk gd t ((itmL l).drop (i + 1)) e' = true ∧ g''.length = g.length ∧ ∀ k, k ∉ vs → g''[k]? = g[k]?), fun _ _ h => h, fun x H2 y => ?_⟩
    obtain ⟨sr2, sp2, r2⟩ := hy x H2 y
    have fr2 := fr'.step sp2 sr2
    have sw2 := sw.trans (sp2.stw fr'.st.sub)
    simp only [itmOk] at hok
    cases hgd : gd d e' with
    | none => rw [hgd] at hok; cases hok
    | some e2 =>
      rw [hgd] at hok
      simp only at hok
      refine ⟨L00, [], H0, L', [], e', [], d, e2, fr2, r2, hgd, fun g3 fr3 hl3 hg3 => ⟨L00, [], H0, L', [], e2, [], fr3, ?_⟩⟩
      cases ht : t e2 [] with
      | no => rw [ht] at hok; cases hok
      | ex c fs S => rw [ht] at hok; cases hok
      | ok b S1 =>
        rw [ht] at hok
        cases b with
        | true => cases hok
        | false =>
          cases S1 with
          | cons _ _ => cases hok
          | nil =>
            simp only at hok
            intro v H4 L4 io4 s4 sr4 ev
            subst ev
            have hio : io4 = [] := List.length_eq_zero_iff.mp (by rw [sr4.len]; rfl)
            subst hio
            rw [if_neg (by decide)]
            refine ⟨_, by omega, rfl, hlt, L4, e2, fr3.step s4 sr4, sw2.trans (s4.stw fr3.st.sub), hok, hl3.trans hl, fun k hk => (hg3 k hk).trans (hg k hk)⟩
  · have ei : i = (itmL l).length := by omega
    subst ei
    exact .inl ⟨wk.stop L' [] H' sw, q g' L' H' sw hl hg⟩
theorem rd_items {K : PySem.W.Frag} {W : WX} {i : Nat} {vs : List Nat} {gd : DG} {t : DT} {D : Ends} {g : St} {H : Hp} (h : rds K W (sItems i vs gd t) D g H) :
    tLock (tFor (iItems (tVar i)) (tgR K gd vs) (tIfS (rdt K W t) L2.tNever (fun D g H => D.nx g H))) D g H ∨ tFor (iItems (tVar i)) (tgR K gd vs) (tIfS (rdt K W t) L2.tNever (fun D g H => D.nx g H)) D g H := by
  obtain ⟨L0, io0, H0, L, io, e, S, fr, q⟩ := h
  unfold sItems at q
  cases he : e[i]? with
  | none => rw [he] at q; exact q.elim
  | some sl =>
    rw [he] at q
    cases sl with
    | va d =>
      simp only at q
      cases h1 : asD S d with
      | none => rw [h1] at q; exact q.elim
      | some l =>
        rw [h1] at q
        simp only [kItems] at q
        split at q
        · rename_i hq
          obtain ⟨hm, hall⟩ := hq
          obtain ⟨ms, hms⟩ := Option.isSome_iff_exists.mp hm
          obtain ⟨v, gv, rv⟩ := fr.va i d he
          obtain ⟨a, kvs, rfl, ha, pk⟩ := asD_ok fr.st rv h1
          have ekv := strVs_ok pk hms
          rcases ha with ha | ⟨od, ha⟩
          · refine .inl ⟨a, .dK kvs, ha, trivial, fun od => ?_⟩
            have hlk : ∀ b' o, H b' = some o → (upd H a (.frz od (.dK kvs))) b' = some o ∨ ∃ kvs' od', o = .dK kvs' ∧ (upd H a (.frz od (.dK kvs))) b' = some (.frz od' o) := fun b' o e' => by
              by_cases z : b' = a
              · subst z
                rw [ha] at e'
                cases e'
                exact .inr ⟨kvs, od, rfl, upd_same⟩
              · exact .inl (by rw [upd_ne z]; exact e')
            refine rd_itemsA gv upd_same hms ekv (fr.view hlk) hall fun g' L' H' sw hl hg => ?_
            have ka : H' a = some (.frz od (.dK kvs)) := sw.keep a _ upd_same (fun z => z)
            refine ⟨ka, ?_⟩
            have keepA : ∀ b' o, H b' = some o → (upd H' a (.dK kvs)) b' = some o := fun b' o e' => by
              by_cases z : b' = a
              · subst z; rw [ha] at e'; cases e'; exact upd_same
              · rw [upd_ne z]
                exact sw.keep b' o (by rw [upd_ne z]; exact e') (fun z => z)
            have st : Stp L io H L io (upd H' a (.dK kvs)) := ⟨⟨[], by simp⟩, fun _ h => .inl h, fun b' h => .inl h, fun b' o e' _ => keepA b' o e', fun _ h => h⟩
            have dm : ∀ b', L b' → (upd H' a (.dK kvs)) b' ≠ none := fun b' h => by
              cases hz : H b' with
              | none => exact absurd hz (fr.st.dom b' h)
              | some o => rw [keepA b' o hz]; exact fun z => nomatch z
            have sr : SR K L io (upd H' a (.dK kvs)) S := ⟨fr.st.len, fr.st.nd, fr.st.sub, dm, fun k b' o e1 e2 => (fr.st.obj k b' o e1 e2).mono (fun u e' => keepA b' u e') fun v d r => r.step st fr.st.sub⟩
            exact q g' _ L io (st.stw fr.st.sub) ((fr.step st sr).wiped hl hg)
          · refine .inr (rd_itemsA gv ha hms ekv (fr.view fun b o e => .inl e) hall fun g' L' H' sw hl hg => ?_)
            have keepA : ∀ b' o, H b' = some o → H' b' = some o := fun b' o e' => sw.keep b' o e' (fun z => z)
            have st : Stp L io H L io H' := ⟨⟨[], by simp⟩, fun _ h => .inl h, fun b' h => .inl h, fun b' o e' _ => keepA b' o e', fun _ h => h⟩
            have dm : ∀ b', L b' → H' b' ≠ none := fun b' h => by
              cases hz : H b' with
              | none => exact absurd hz (fr.st.dom b' h)
              | some o => rw [keepA b' o hz]; exact fun z => nomatch z
            have sr : SR K L io H' S := ⟨fr.st.len, fr.st.nd, fr.st.sub, dm, fun k b' o e1 e2 => (fr.st.obj k b' o e1 e2).mono (fun u e' => keepA b' u e') fun v d r => r.step st fr.st.sub⟩
            exact q g' _ L io (st.stw fr.st.sub) ((fr.step st sr).wiped hl hg)
        · exact q.elim
    | _ => exact q.elim
section
variable {X : Cx} {W : WX} {pos p apos cpos tpos ipos : Pos} {test : Expr} {suite : List Stmt} {elts : List Expr} {kk : Nat} {t : DT} {gd : DG} {vs : List Nat} {x : Str}
theorem qs_items (i : Nat) (hp : PassesOwn (model X.prog X.w) X.A X.env X.xe) (hc : X.calm = true) (hg : QG X (.Tuple elts kk tpos) gd vs) (ht : QT X W test t)
    (hNx : X.N[i]? = some x := by rfl) (hv : Vis X.env.scope x := by first | exact Or.inl rfl | exact Or.inr (Or.inl rfl) | exact Or.inr (Or.inr rfl)) (hdb : (x == ("__debug__" : Str)) = false := by decide) (hcd : (x == ("__classdict__" : Str)) = false := by decide)
    (hb : attributeBase (.Name x p) "items" X.env (eval (.Name x p) X.env) = eval (.Name x p) X.env := by rfl) (hline : (apos.endLine == cpos.line) = true := by rfl)
    (hs : ∀ y, foldedSetIterable (.Call (.Attribute (.Name x p) "items" apos) [] [] cpos) X.env y = pure y := by intro _; rfl) :
    QS X W (.For (.Tuple elts kk tpos) (.Call (.Attribute (.Name x p) "items" apos) [] [] cpos) [.If test suite [] ipos] [] pos) (sItems i vs gd t) := by
  have P := ps_for (pos := pos) hp hc (pi_items (elts := elts) (kk := kk) (tpos := tpos) (pe_var (i := i) hNx hv hdb hcd) hb hline) hg.canon (pss_one (ps_if (pos := ipos) ht (pss_never (sts := suite)) pss_nil)) hs
  refine ⟨fun pins s σ H D I h => ?_⟩
  rcases rd_items (W := W) h with h | h
  · exact (ps_lock P).run pins s σ H D I h
  · exact P.run pins s σ H D I h
end
def gL (gs : DGs) : DG := fun d e => (asF d).bind fun l => gs l e
@[simp] theorem ev_gL (gs : DGs) (l : List Dv) (e : Env) : gL gs (.lst l) e = gs l e := rfl
end DL
namespace DL
open PySem L2 PySem.Spec PyProof.Rows
def beqV : Nat → Dv → Dv → Bool
  | _ + 1, .str x, .str y => decide (x = y)
  | _ + 1, .int x, .int y => decide (x = y)
  | _ + 1, .bl x, .bl y => decide (x = y)
  | _ + 1, .non, .non => true
  | n + 1, .lst l, .lst m => decide (l.length = m.length) && (l.zip m).all fun q => beqV n q.1 q.2
  | n + 1, .dic l, .dic m => decide (l.length = m.length) && l.all fun q => match valD m q.1 with
    | some u => beqV n q.2 u
    | none => false
  | _, _, _ => false
def EqRr (K : PySem.W.Frag) (H : Hp) (E : V → V → Prop) (x y : V) : Prop :=
  (∃ a b xs ys, x = .ref a ∧ y = .ref b ∧ SqL K H a xs ∧ SqL K H b ys ∧ Paired E xs ys) ∨
    ∃ a b ks ls, x = .ref a ∧ y = .ref b ∧ Rd H a (.dK ks) ∧ Rd H b (.dK ls) ∧ ks.length = ls.length ∧ ∀ p ∈ ks, ∃ u, valV ls p.1 = some u ∧ E p.2 u
def EqVr (K : PySem.W.Frag) (H : Hp) : Nat → V → V → Prop
  | 0 => fun _ _ => False
  | n + 1 => fun x y => (x = y ∧ flatB x = true) ∨ (∃ a, x = .ref a ∧ y = .ref a) ∨ EqRr K H (EqVr K H n) x y
section
variable {X : Cx} {pins : List (Addr × Obj)} {σ : L2.St} {H : Hp} {s : Shared}
theorem eqRr_run (I : Inv X pins σ H s) {A : Around} {F : V → V → Prop} (hu : A.units < cLine) (ih : ∀ x y v u, F x y → RelV x v → RelV y u → SeqAt.EqP X.prog X.w A.in1 s v u true) {x y : V} {v u : Value} (h : EqRr X.K H F x y) (rx : RelV x v) (ry : RelV y u)
    (E Q : Value → Shared → Prop) (q : Q (.bool true) s) : wpAny (model X.prog X.w) A (richCompare .Eq v u) Q E s := by
  rcases h with h | ⟨a, b, ks, ls, rfl, rfl, ha, hb, hl, hp⟩
  · exact eqR_run I hu ih (.inl h) rx ry E Q q
  · cases (show v = Value.ref a from rx)
    cases (show u = Value.ref b from ry)
    obtain ⟨_, ya, va, ra, da⟩ := dk_rd I.hok ha
    obtain ⟨_, yb, vb, rb, db⟩ := dk_rd I.hok hb
    refine PySem.W.rcP_dicts (knd := mixKind X.prog X.w) (r := true) ya yb da db hu (fun _ => hits_run ih rb ra hp) E Q ?_
    have e : va.length = vb.length := by rw [← ra.length, ← rb.length]; exact hl
    rw [show (va.length == vb.length && true) = true from by rw [e]; simp]
    exact q
theorem eqVr_run (I : Inv X pins σ H s) : ∀ (n : Nat) (A : Around), A.units + n < cLine → ∀ (x y : V) (v u : Value), EqVr X.K H n x y → RelV x v → RelV y u → SeqAt.EqP X.prog X.w A s v u true
  | 0, _, _, _, _, _, _, h, _, _ => (show False from h).elim
  | n + 1, A, hu, x, y, v, u, h, rx, ry => by
    rcases h with ⟨rfl, f⟩ | ⟨a, rfl, rfl⟩ | h
    · exact (eqAt_same rx ry f).eqP
    · cases (show v = Value.ref a from rx)
      cases (show u = Value.ref a from ry)
      exact (SeqAt.EqAt.same _).eqP
    · have step := eqRr_run I (A := A) (by omega) (eqVr_run I n A.in1 (by show A.units + 1 + n < cLine; omega)) h rx ry
      obtain ⟨a, b, rfl, rfl⟩ : ∃ a b, x = .ref a ∧ y = .ref b := by
        rcases h with ⟨a, b, _, _, e1, e2, _⟩ | ⟨a, b, _, _, e1, e2, _⟩
        · exact ⟨a, b, e1, e2⟩
        · exact ⟨a, b, e1, e2⟩
      cases (show v = Value.ref a from rx)
      cases (show u = Value.ref b from ry)
      by_cases e : a = b
      · subst e
        exact (SeqAt.EqAt.same _).eqP
      · exact SeqAt.eqP_refs e step
end
def rEqVr (K : PySem.W.Frag) : R2 := fun x y H Q => ∃ n, n ≤ 60 ∧ EqRr K H (EqVr K H n) x y ∧ Q (.bl true) H
theorem op_eqVr {X : Cx} (hu : X.A.units + 64 < cLine) : OpR X (compareOp .Eq) (rEqVr X.K) := by
  intro pins s σ H x y v u Q I rx ry h
  obtain ⟨n, hn, h, q⟩ := h
  exact eqRr_run I (A := X.A) (by omega) (eqVr_run I n X.A.in1 (by show X.A.units + 1 + n < cLine; omega)) h rx ry _ _ ⟨.bl true, H, I, rfl, q⟩
section
variable {K : PySem.W.Frag} {L : Addr → Prop} {io : List Addr} {H : Hp}
theorem beqs_ok {n : Nat} (ih : ∀ (d d' : Dv) (v v' : V), beqV n d d' = true → VR K L io H v d → VR K L io H v' d' → EqVr K H n v v') : ∀ (l m : List Dv) (xs ys : List V), l.length = m.length → ((l.zip m).all fun q => beqV n q.1 q.2) = true → VRs K L io H xs l → VRs K L io H ys m → Paired (EqVr K H n) xs ys
  | [], [], _, _, _, _, .nil, .nil => .nil
  | d :: l, d' :: m, _, _, hl, h, .cons r1 t1, .cons r2 t2 => by
    simp only [List.zip_cons_cons, List.all_cons, Bool.and_eq_true] at h
    exact .cons (ih d d' _ _ h.1 r1 r2) (beqs_ok ih l m _ _ (by simpa using hl) h.2 t1 t2)
theorem val_pair {R : V → Dv → Prop} {k : Key} : ∀ {kvs : List (Key × V)} {l : List (Key × Dv)} {u : Dv}, PairR R kvs l → valD l k = some u → ∃ w, valV kvs k = some w ∧ R w u := fun {kvs l u} p h => (p.val k).1 u h
theorem beqV_ok : ∀ (n : Nat) (d d' : Dv) (v v' : V), beqV n d d' = true → VR K L io H v d → VR K L io H v' d' → EqVr K H n v v'
  | 0, d, d', _, _, h, _, _ => by simp [beqV] at h
  | n + 1, d, d', v, v', h, r, r' => by
    cases d <;> cases d' <;> try (simp [beqV] at h; done)
    · cases r; cases r'; exact .inl ⟨rfl, rfl⟩
    · simp only [beqV, decide_eq_true_eq] at h; subst h; cases r; cases r'; exact .inl ⟨rfl, rfl⟩
    · simp only [beqV, decide_eq_true_eq] at h; subst h; cases r; cases r'; exact .inl ⟨rfl, rfl⟩
    · simp only [beqV, decide_eq_true_eq] at h; subst h; cases r; cases r'; exact .inl ⟨rfl, rfl⟩
    · simp only [beqV, Bool.and_eq_true, decide_eq_true_eq] at h
      obtain ⟨a, xs, rfl, h1, h2⟩ := asF_ok r rfl
      obtain ⟨b, ys, rfl, h3, h4⟩ := asF_ok r' rfl
      exact .inr (.inr (.inl ⟨a, b, xs, ys, rfl, rfl, h1, h3, beqs_ok (beqV_ok n) _ _ xs ys h.1 h.2 h2 h4⟩))
    · rename_i l m
      simp only [beqV, Bool.and_eq_true, decide_eq_true_eq, List.all_eq_true] at h
      cases r with
      | dic nl e t =>
        cases r' with
        | dic nl' e' t' =>
          rename_i a kvs b kvs'
          have p1 := t.pair
          have p2 := t'.pair
          refine .inr (.inr (.inr ⟨_, _, _, _, rfl, rfl, e, e', ?_, fun p hp => ?_⟩))
          · rw [Paired.length p1, Paired.length p2]; exact h.1
          · have key : ∀ {kvs : List (Key × V)} {l : List (Key × Dv)}, PairR (VR K L io H) kvs l → p ∈ kvs → ∃ d, (p.1, d) ∈ l ∧ VR K L io H p.2 d := by
              intro kvs l pr
              induction pr with
              | nil => intro h; simp at h
              | @cons x y xs ys hxy tt ih =>
                intro hm
                rcases List.mem_cons.mp hm with e | hm
                · subst e
                  obtain ⟨k2, d2⟩ := y
                  obtain ⟨e1, e2⟩ := hxy
                  exact ⟨d2, by rw [show p.1 = k2 from e1]; exact List.mem_cons_self, e2⟩
                · obtain ⟨d, h1, h2⟩ := ih hm
                  exact ⟨d, List.mem_cons_of_mem _ h1, h2⟩
            obtain ⟨d, h1, h2⟩ := key p1 hp
            have h3 := h.2 _ h1
            cases hv : valD m p.1 with
            | none => simp only [hv] at h3; cases h3
            | some u =>
              simp only [hv] at h3
              obtain ⟨w, h4, h5⟩ := val_pair p2 hv
              exact ⟨w, h4, beqV_ok n d u p.2 w h3 h2 h5⟩
end
def eqVD (S : Sto) (a b : Dv) : Option (Dv × Sto) := match a, b with
  | .lst l, .lst m => if beqV 40 (.lst l) (.lst m) = true then some (.bl true, S) else none
  | _, _ => none
theorem ops_eqVr {K : PySem.W.Frag} : OpS K (rEqVr K) eqVD := by
  intro L io H S x y a b d S' Q sr ra rb e q
  unfold eqVD at e
  split at e
  · rename_i l m
    split at e
    · rename_i h
      cases e
      obtain ⟨a, xs, rfl, h1, h2⟩ := asL_x sr ra rfl
      obtain ⟨b, ys, rfl, h3, h4⟩ := asL_x sr rb rfl
      simp only [beqV, Bool.and_eq_true, decide_eq_true_eq] at h
      exact ⟨39, by decide, .inl ⟨a, b, xs, ys, rfl, rfl, h1, h3, beqs_ok (beqV_ok 39) _ _ xs ys h.1 h.2 h2 h4⟩, q _ H L io (Stp.refl ..) sr (.bl true)⟩
    · cases e
  · cases e
section
variable {X : Cx} {W : WX} {e f : Expr} {f1 f2 : DE} {pos : Pos} {kk : Nat}
theorem qe_eqV (hu : X.A.units + 64 < cLine) (ha : QX X W e f1) (hb : QX X W f f2) : QE X W (.Compare e [.Eq] [f] pos) (eBin eqVD f1 f2) := qe_cmp (op_eqVr hu) ops_eqVr ha hb
end
end DL
namespace DL
open PySem L2
inductive Fn where
  | l_bag
  | is_made_of
  | is_own_name
  | is_sign
  | is_promise
  | checked
  | Promises_init
  | all_promises
  | Promises_getitem
  | is_at_most
  | Promises_powers
  | Promises_at_most
  | Promises_eq
  | l_outside
  | l_take
  | l_mixed
  | l_one
  | l_some
  | Promises_setitem
  | Promises_copied
  | l_spoilt
  | l_truth
  | is_border
  | l_due
  | l_go
  | law
def Fn.nm : Fn → Str
  | .l_bag => "_law_bag"
  | .is_made_of => "is_made_of"
  | .is_own_name => "is_own_name"
  | .is_sign => "is_sign"
  | .is_promise => "is_promise"
  | .checked => "checked"
  | .Promises_init => "Promises.__init__"
  | .all_promises => "all_promises"
  | .Promises_getitem => "Promises.__getitem__"
  | .is_at_most => "is_at_most"
  | .Promises_powers => "Promises.powers"
  | .Promises_at_most => "Promises.at_most"
  | .Promises_eq => "Promises.__eq__"
  | .l_outside => "_law_outside"
  | .l_take => "_law_take"
  | .l_mixed => "_law_mixed"
  | .l_one => "_law_one"
  | .l_some => "_law_some"
  | .Promises_setitem => "Promises.__setitem__"
  | .Promises_copied => "Promises.copied"
  | .l_spoilt => "_law_spoilt"
  | .l_truth => "_law_truth"
  | .is_border => "is_border"
  | .l_due => "_law_due"
  | .l_go => "_law_go"
  | .law => "law"
def c_LETTERS : Dv := (.str "abcdefghijklmnopqrstuvwxyz")
def c_RESERVED : Dv := (.tup [(.str "do"), (.str "if"), (.str "else"), (.str "while"), (.str "end")])
def c_SPLITS : Dv := (.tup [(.str "split2"), (.str "split2at0"), (.str "split2at1"), (.str "split3"), (.str "split3at0"), (.str "split3at1"), (.str "split3at2"), (.str "split4"), (.str "split4at0"), (.str "split4at1"), (.str "split4at2"), (.str "split4at3")])
def c_POWERS : Dv := (.tup [(.str "quiet"), (.str "shown"), (.str "fails"), (.str "turns"), (.str "free")])
def dl_Promises_1 : List Dv := []
def su_Promises : List (Str × Bool) := [("Promises", true)]
def fb_l_bag (c : Fn → DF) : DS := (sRet (eNew (fLst (aCons (eC (.int 0)) (aCons (eC (.int 1234567891)) (aCons (eC (.int 0)) (aCons (eFrz (fLc (iSq (eCut (eVar 0) oNone (oSome (eC (.int 63))))) (gN 1) tTrue (eCB absD (aCons (eVar 1) aNil)) [1])) aNil)))))))
def g_l_bag (c : Fn → DF) : DF := runF 1 2 (fb_l_bag c)
def fb_is_made_of_l0 (c : Fn → DF) : DS := (sIf (tVal (eBin (inD true) (eVar 2) (eVar 1))) (sRet (eC (.bl false))) sNil)
def fb_is_made_of (c : Fn → DF) : DS := (sSeq (sIf (tOr' (tNot' (tTru (eCB isiD (aCons (eVar 0) (aCons (eC (.ty "str")) aNil))))) (tNot' (tVal (eChn (pu2 ltD) (pu2 leD) (eC (.int 0)) (eCB lenD (aCons (eVar 0) aNil)) (eC (.int 8)))))) (sRet (eC (.bl false))) sNil) (sSeq (sFor (iSq (eVar 0)) (gN 2) (fb_is_made_of_l0 c)) (sRet (eC (.bl true)))))
def g_is_made_of (c : Fn → DF) : DF := runF 2 3 (fb_is_made_of c)
def fb_is_own_name (c : Fn → DF) : DS := (sRet (eAnd (eCall (c .is_made_of) (aCons (eVar 0) (aCons (eC c_LETTERS) aNil))) (eBin (inD true) (eVar 0) (eC c_RESERVED))))
def g_is_own_name (c : Fn → DF) : DF := runF 1 1 (fb_is_own_name c)
def fb_is_sign (c : Fn → DF) : DS := (sRet (eAnd (eCall (c .is_own_name) (aCons (eVar 0) aNil)) (eBin neE (eVar 0) (eC (.str "split")))))
def g_is_sign (c : Fn → DF) : DF := runF 1 1 (fb_is_sign c)
def fb_is_promise (c : Fn → DF) : DS := (sSeq (sIf (tOr' (tNot' (tTru (eCB isiD (aCons (eVar 0) (aCons (eC (.ty "str")) aNil))))) (tNot' (tTru (eCB isiD (aCons (eVar 1) (aCons (eC (.ty "str")) aNil)))))) (sRet (eC (.bl false))) sNil) (sRet (eAnd (eOr (eCall (c .is_sign) (aCons (eVar 0) aNil)) (eBin (inD false) (eVar 0) (eC c_SPLITS))) (eBin (inD false) (eVar 1) (eC c_POWERS)))))
def g_is_promise (c : Fn → DF) : DF := runF 2 2 (fb_is_promise c)
def fb_checked_l0 (c : Fn → DF) : DS := (sIf (tNot' (tTru (eCall (c .is_promise) (aCons (eVar 1) (aCons (eBin dgetD (eVar 0) (eVar 1)) aNil))))) sNever sNil)
def fb_checked (c : Fn → DF) : DS := (sSeq (sIf (tNot' (tTru (eCB isiD (aCons (eVar 0) (aCons (eC (.ty "dict")) aNil))))) sNever sNil) (sSeq (sItems 0 [1, 2] (gT (gsCons (gN 1) (gsCons (gN 2) gsNil))) (tOr' (tNot' (tTru (eCB isiD (aCons (eVar 1) (aCons (eC (.ty "str")) aNil))))) (tNot' (tTru (eCB isiD (aCons (eVar 2) (aCons (eC (.ty "str")) aNil))))))) (sSeq (sFor (iSq (eFrz (fSrtD (aCons (eVar 0) aNil)))) (gN 1) (fb_checked_l0 c)) (sRet (eHdlN (nD (dDc (iSq (eFrz (fSrtD (aCons (eVar 0) aNil)))) (gN 1) (tVal (eBin neE (eBin dgetD (eVar 0) (eVar 1)) (eC (.str "free")))) (eVar 1) (eBin dgetD (eVar 0) (eVar 1)) [1])))))))
def g_checked (c : Fn → DF) : DF := runF 1 3 (fb_checked c)
def fb_Promises_init (c : Fn → DF) : DS := (sFldH "Promises" "named" (eVar 0) (eCall (c .checked) (aCons (eIf (tVal (eBin (pu2 (isD false)) (eVar 1) (eC .non))) (eFrzD dNil) (eVar 1)) aNil)))
def g_Promises_init (c : Fn → DF) : DF := runF 2 2 (fb_Promises_init c)
def fb_all_promises_l0 (c : Fn → DF) : DS := (sSeq (sOwnN 6 (nD (dCopy (aCons (eVar 4) aNil)))) (sSeq (sIf (tVal (eBin neE (eVar 5) (eC (.str "free")))) (sDPutO 6 (eVar 2) (eVar 5)) sNil) (sSeq (sFz 6) (sOwnM appD 3 (aCons (eVar 6) aNil)))))
def fb_all_promises_l1 (c : Fn → DF) : DS := (sFor (iSq (eC c_POWERS)) (gN 5) (fb_all_promises_l0 c))
def fb_all_promises_l2 (c : Fn → DF) : DS := (sSeq (sOwnN 3 (nL (fLst aNil))) (sSeq (sFor (iSq (eVar 1)) (gN 4) (fb_all_promises_l1 c)) (sSeq (sFz 3) (sAsg 1 (eVar 3)))))
def fb_all_promises (c : Fn → DF) : DS := (sSeq (sAsg 1 (eFrz (fLst (aCons (eFrzD dNil) aNil)))) (sSeq (sFor (iSq (eVar 0)) (gN 2) (fb_all_promises_l2 c)) (sRet (eFrz (fLc (iSq (eVar 1)) (gN 4) tTrue (eMkH "Promises" dl_Promises_1 (c .Promises_init) (aCons (eVar 4) aNil)) [4])))))
def g_all_promises (c : Fn → DF) : DF := runF 1 7 (fb_all_promises c)
def fb_Promises_getitem (c : Fn → DF) : DS := (sRet (eGet2 (eFld "Promises" "named" (eVar 0)) (eVar 1) (eC (.str "free"))))
def g_Promises_getitem (c : Fn → DF) : DF := runF 2 2 (fb_Promises_getitem c)
def fb_is_at_most (c : Fn → DF) : DS := (sSeq (sIf (tOr' (tVal (eBin eqE (eVar 0) (eVar 1))) (tOr' (tVal (eBin eqE (eVar 0) (eC (.str "quiet")))) (tVal (eBin eqE (eVar 1) (eC (.str "free")))))) (sRet (eC (.bl true))) sNil) (sRet (eAnd (eBin eqE (eVar 0) (eC (.str "shown"))) (eBin neE (eVar 1) (eC (.str "quiet"))))))
def g_is_at_most (c : Fn → DF) : DF := runF 2 2 (fb_is_at_most c)
def fb_Promises_powers (c : Fn → DF) : DS := (sRet (eFrzD (dDc (iSq (eFrz (fSrtD (aCons (eFld "Promises" "named" (eVar 0)) aNil)))) (gN 1) tTrue (eVar 1) (eBin dgetD (eFld "Promises" "named" (eVar 0)) (eVar 1)) [1])))
def g_Promises_powers (c : Fn → DF) : DF := runF 1 2 (fb_Promises_powers c)
def fb_Promises_at_most_l0 (c : Fn → DF) : DS := (sIf (tNot' (tTru (eCall (c .is_at_most) (aCons (eSubO "Promises" (c .Promises_getitem) (eVar 0) (eVar 2)) (aCons (eSubO "Promises" (c .Promises_getitem) (eVar 1) (eVar 2)) aNil))))) (sRet (eC (.bl false))) sNil)
def fb_Promises_at_most (c : Fn → DF) : DS := (sSeq (sFor (iSq (eFrz (fSrtSet (aCons (eBin addD (eFrz (fKeys (aCons (eFld "Promises" "named" (eVar 0)) aNil))) (eFrz (fKeys (aCons (eMeth "Promises" "powers" [] (c .Promises_powers) (eVar 1) aNil) aNil)))) aNil)))) (gN 2) (fb_Promises_at_most_l0 c)) (sRet (eC (.bl true))))
def g_Promises_at_most (c : Fn → DF) : DF := runF 2 3 (fb_Promises_at_most c)
def fb_Promises_eq (c : Fn → DF) : DS := (sRet (eAnd (eCB (isoD "Promises" su_Promises) (aCons (eVar 1) (aCons (eC (.glo "Promises")) aNil))) (eBin (eqDs false) (eFld "Promises" "named" (eVar 0)) (eFld "Promises" "named" (eVar 1)))))
def g_Promises_eq (c : Fn → DF) : DF := runF 2 2 (fb_Promises_eq c)
def fb_l_outside_l0 (c : Fn → DF) : DS := (sIf (tVal (eBin eqE (eFrz (fLc (iSq (eVar 3)) (gN 7) (tAnd' (tVal (eEqO true "Promises" (c .Promises_eq) (eVar 7) (eVar 5))) (tTru (eMeth "Promises" "at_most" [] (c .Promises_at_most) (eVar 7) (aCons (eVar 5) aNil)))) (eC (.int 1)) [7])) (eFrz (fLst aNil)))) (sOwnM appD 4 (aCons (eVar 5) aNil)) sNil)
def fb_l_outside (c : Fn → DF) : DS := (sSeq (sAsg 2 (eCall (c .all_promises) (aCons (eVar 0) aNil))) (sSeq (sAsg 3 (eFrz (fLc (iSq (eVar 2)) (gN 5) (tVal (eBin eqE (eFrz (fLc (iSq (eVar 1)) (gN 6) (tTru (eMeth "Promises" "at_most" [] (c .Promises_at_most) (eVar 5) (aCons (eVar 6) aNil))) (eC (.int 1)) [6])) (eFrz (fLst aNil)))) (eVar 5) [5]))) (sSeq (sOwnN 4 (nL (fLst aNil))) (sSeq (sFor (iSq (eVar 3)) (gN 5) (fb_l_outside_l0 c)) (sSeq (sFz 4) (sRet (eVar 4)))))))
def g_l_outside (c : Fn → DF) : DF := runF 2 8 (fb_l_outside c)
def fb_l_take (c : Fn → DF) : DS := (sSeq (sIf (tVal (eBin eqE (eBin ixD (eVar 0) (eC (.int 0))) (eC (.int 0)))) (sSeq (sAsg 2 (eC (.int 0))) (sSeq (sIf (tVal (eBin (pu2 ltD) (eBin ixD (eVar 0) (eC (.int 2))) (eCB lenD (aCons (eBin ixD (eVar 0) (eC (.int 3))) aNil)))) (sAsg 2 (eBin ixD (eBin ixD (eVar 0) (eC (.int 3))) (eBin ixD (eVar 0) (eC (.int 2))))) sNil) (sSeq (sAugI addI (eVar 0) (eC (.int 2)) (eC (.int 1))) (sSeq (sIf (tVal (eBin (pu2 geD) (eVar 2) (eC (.int 1000000000000000000)))) (sSetI (eVar 0) (eC (.int 0)) (eVar 2)) sNil) (sSeq (sAsg 3 (eBin addD (eBin addD (eBin (pu2 mulD) (eBin ixD (eVar 0) (eC (.int 1))) (eC (.int 48271))) (eBin (pu2 modD) (eCB intD (aCons (eVar 2) aNil)) (eC (.int 2147483647)))) (eBin (pu2 mulD) (eC (.int 7919)) (eBin ixD (eVar 0) (eC (.int 2)))))) (sSetI (eVar 0) (eC (.int 1)) (eBin (pu2 modD) (eCB intD (aCons (eVar 3) aNil)) (eC (.int 2147483647))))))))) sNil) (sSeq (sIf (tVal (eBin (pu2 gtD) (eBin ixD (eVar 0) (eC (.int 0))) (eC (.int 0)))) (sSeq (sAsg 4 (eBin (pu2 modD) (eCB intD (aCons (eBin ixD (eVar 0) (eC (.int 0))) aNil)) (eVar 1))) (sSeq (sSetI (eVar 0) (eC (.int 0)) (eBin (pu2 fdivD) (eCB intD (aCons (eBin ixD (eVar 0) (eC (.int 0))) aNil)) (eVar 1))) (sRet (eVar 4)))) sNil) (sSeq (sAsg 5 (eBin (pu2 modD) (eCB intD (aCons (eBin (pu2 mulD) (eBin addD (eBin ixD (eVar 0) (eC (.int 1))) (eC (.int 1))) (eC (.int 39373))) aNil)) (eC (.int 1000000007)))) (sSeq (sAsg 6 (eBin (pu2 modD) (eCB intD (aCons (eBin (pu2 mulD) (eBin (pu2 modD) (eCB intD (aCons (eBin (pu2 mulD) (eVar 5) (eVar 5)) aNil)) (eC (.int 998244353))) (eC (.int 30011))) aNil)) (eC (.int 998244353)))) (sRet (eBin (pu2 modD) (eCB intD (aCons (eBin (pu2 fdivD) (eVar 6) (eC (.int 7))) aNil)) (eVar 1)))))))
def g_l_take (c : Fn → DF) : DF := runF 2 7 (fb_l_take c)
def fb_l_mixed_l0 (c : Fn → DF) : DS := (sOwnM insD 2 (aCons (eCall (c .l_take) (aCons (eVar 0) (aCons (eBin addD (eCB lenD (aCons (eAny 2) aNil)) (eC (.int 1))) aNil))) (aCons (eVar 3) aNil)))
def fb_l_mixed (c : Fn → DF) : DS := (sSeq (sOwnN 2 (nL (fLst aNil))) (sSeq (sFor (iSq (eVar 1)) (gN 3) (fb_l_mixed_l0 c)) (sSeq (sFz 2) (sRet (eVar 2)))))
def g_l_mixed (c : Fn → DF) : DF := runF 2 4 (fb_l_mixed c)
def fb_l_one (c : Fn → DF) : DS := (sRet (eBin ixD (eVar 1) (eCall (c .l_take) (aCons (eVar 0) (aCons (eCB lenD (aCons (eVar 1) aNil)) aNil)))))
def g_l_one (c : Fn → DF) : DF := runF 2 2 (fb_l_one c)
def fb_l_some (c : Fn → DF) : DS := (sRet (eMkH "Promises" dl_Promises_1 (c .Promises_init) (aCons (eFrzD (dDict (aCons (eFrz (fLc (iSq (eVar 1)) (gN 2) tTrue (eTup (aCons (eVar 2) (aCons (eCall (c .l_one) (aCons (eVar 0) (aCons (eC c_POWERS) aNil))) aNil))) [2])) aNil))) aNil)))
def g_l_some (c : Fn → DF) : DF := runF 2 3 (fb_l_some c)
def fb_Promises_setitem (c : Fn → DF) : DS := (sSeq (sIf (tNot' (tTru (eCall (c .is_promise) (aCons (eVar 1) (aCons (eVar 2) aNil))))) sNever sNil) (sSeq (sExpr (ePop2 (eFld "Promises" "named" (eVar 0)) (eVar 1) (eC .non))) (sIf (tVal (eBin neE (eVar 2) (eC (.str "free")))) (sDPutH (eFld "Promises" "named" (eVar 0)) (eVar 1) (eVar 2)) sNil)))
def g_Promises_setitem (c : Fn → DF) : DF := runF 3 3 (fb_Promises_setitem c)
def fb_Promises_copied (c : Fn → DF) : DS := (sRet (eMkH "Promises" dl_Promises_1 (c .Promises_init) (aCons (eFld "Promises" "named" (eVar 0)) aNil)))
def g_Promises_copied (c : Fn → DF) : DF := runF 1 1 (fb_Promises_copied c)
def fb_l_spoilt (c : Fn → DF) : DS := (sSeq (sPar 3 4 (aCons (eCall (c .l_take) (aCons (eVar 0) (aCons (eC (.int 3)) aNil))) (aCons (eCall (c .l_take) (aCons (eVar 0) (aCons (eBin addD (eCB lenD (aCons (eVar 2) aNil)) (eC (.int 1))) aNil))) aNil))) (sSeq (sIf (tOr' (tVal (eBin eqE (eVar 3) (eC (.int 0)))) (tVal (eBin eqE (eVar 1) (eFrz (fLst aNil))))) (sRet (eBin addD (eCut (eVar 2) oNone (oSome (eVar 4))) (eCut (eVar 2) (oSome (eBin addD (eVar 4) (eC (.int 1)))) oNone))) sNil) (sSeq (sIf (tOr' (tVal (eBin eqE (eVar 3) (eC (.int 1)))) (tVal (eBin eqE (eVar 4) (eCB lenD (aCons (eVar 2) aNil))))) (sRet (eBin addD (eBin addD (eCut (eVar 2) oNone (oSome (eVar 4))) (eFrz (fLst (aCons (eCall (c .l_some) (aCons (eVar 0) (aCons (eBin addD (eVar 1) (eBin repD (eFrz (fLst (aCons (eC (.str "further")) aNil))) (eCall (c .l_take) (aCons (eVar 0) (aCons (eC (.int 2)) aNil))))) aNil))) aNil)))) (eCut (eVar 2) (oSome (eVar 4)) oNone))) sNil) (sSeq (sAsg 5 (eMeth "Promises" "copied" [] (c .Promises_copied) (eBin ixD (eVar 2) (eVar 4)) aNil)) (sSeq (sPutO "Promises" (c .Promises_setitem) (eVar 5) (eCall (c .l_one) (aCons (eVar 0) (aCons (eVar 1) aNil))) (eCall (c .l_one) (aCons (eVar 0) (aCons (eC c_POWERS) aNil)))) (sRet (eBin addD (eBin addD (eCut (eVar 2) oNone (oSome (eVar 4))) (eFrz (fLst (aCons (eVar 5) aNil)))) (eCut (eVar 2) (oSome (eBin addD (eVar 4) (eC (.int 1)))) oNone))))))))
def g_l_spoilt (c : Fn → DF) : DF := runF 3 6 (fb_l_spoilt c)
def fb_l_truth (c : Fn → DF) : DS := (sRet (eAnd (eOr (eBin (pu2 (isD false)) (eVar 0) (eC (.bl true))) (eBin (pu2 (isD false)) (eVar 0) (eC (.bl false)))) (eBin eqE (eVar 0) (eVar 1))))
def g_l_truth (c : Fn → DF) : DF := runF 2 2 (fb_l_truth c)
def fb_is_border_l0 (c : Fn → DF) : DS := (sSeq (sAsg 4 (eBin neE (eFrz (fLc (iSq (eVar 1)) (gN 6) (tTru (eMeth "Promises" "at_most" [] (c .Promises_at_most) (eVar 3) (aCons (eVar 6) aNil))) (eC (.int 1)) [6])) (eFrz (fLst aNil)))) (sSeq (sAsg 5 (eBin neE (eFrz (fLc (iSq (eVar 2)) (gN 6) (tTru (eMeth "Promises" "at_most" [] (c .Promises_at_most) (eVar 6) (aCons (eVar 3) aNil))) (eC (.int 1)) [6])) (eFrz (fLst aNil)))) (sIf (tVal (eBin eqE (eVar 4) (eVar 5))) (sRet (eC (.bl false))) sNil)))
def fb_is_border (c : Fn → DF) : DS := (sSeq (sFor (iSq (eCall (c .all_promises) (aCons (eVar 0) aNil))) (gN 3) (fb_is_border_l0 c)) (sRet (eC (.bl true))))
def g_is_border (c : Fn → DF) : DF := runF 3 7 (fb_is_border c)
def fb_l_due_l0 (c : Fn → DF) : DS := (sSeq (sAsg 4 (eBin neE (eFrz (fLc (iSq (eVar 1)) (gN 6) (tTru (eMeth "Promises" "at_most" [] (c .Promises_at_most) (eVar 3) (aCons (eVar 6) aNil))) (eVar 6) [6])) (eFrz (fLst aNil)))) (sSeq (sAsg 5 (eBin neE (eFrz (fLc (iSq (eVar 2)) (gN 7) (tTru (eMeth "Promises" "at_most" [] (c .Promises_at_most) (eVar 7) (aCons (eVar 3) aNil))) (eVar 7) [7])) (eFrz (fLst aNil)))) (sIf (tVal (eBin eqE (eVar 4) (eVar 5))) (sRet (eC (.bl false))) sNil)))
def fb_l_due (c : Fn → DF) : DS := (sSeq (sFor (iSq (eCall (c .all_promises) (aCons (eVar 0) aNil))) (gN 3) (fb_l_due_l0 c)) (sRet (eC (.bl true))))
def g_l_due (c : Fn → DF) : DF := runF 3 8 (fb_l_due c)
def fb_l_go (c : Fn → DF) : DS := (sSeq (sAsg 1 (eCut (eCall (c .l_mixed) (aCons (eVar 0) (aCons (eFrz (fLst (aCons (eC (.str "f")) (aCons (eC (.str "add")) (aCons (eC (.str "split2")) (aCons (eC (.str "g")) aNil)))))) aNil))) oNone (oSome (eBin ixD (eFrz (fLst (aCons (eC (.int 0)) (aCons (eC (.int 1)) (aCons (eC (.int 2)) (aCons (eC (.int 2)) (aCons (eC (.int 2)) (aCons (eC (.int 3)) aNil)))))))) (eCall (c .l_take) (aCons (eVar 0) (aCons (eC (.int 6)) aNil))))))) (sSeq (sAsg 2 (eFrz (fLc (iRng1' (aCons (eCall (c .l_take) (aCons (eVar 0) (aCons (eC (.int 4)) aNil))) aNil)) (gN 6) tTrue (eCall (c .l_some) (aCons (eVar 0) (aCons (eVar 1) aNil))) [6]))) (sSeq (sAsg 3 (eCall (c .l_outside) (aCons (eVar 1) (aCons (eVar 2) aNil)))) (sSeq (sIf (tVal (eBin eqE (eCall (c .l_take) (aCons (eVar 0) (aCons (eC (.int 5)) aNil))) (eC (.int 0)))) (sAsg 3 (eFrz (fLc (iRng1' (aCons (eCall (c .l_take) (aCons (eVar 0) (aCons (eC (.int 3)) aNil))) aNil)) (gN 6) tTrue (eCall (c .l_some) (aCons (eVar 0) (aCons (eVar 1) aNil))) [6]))) sNil) (sSeq (sIf (tVal (eBin eqE (eCall (c .l_take) (aCons (eVar 0) (aCons (eC (.int 2)) aNil))) (eC (.int 0)))) (sIf (tVal (eBin eqE (eCall (c .l_take) (aCons (eVar 0) (aCons (eC (.int 2)) aNil))) (eC (.int 0)))) (sAsg 2 (eCall (c .l_spoilt) (aCons (eVar 0) (aCons (eVar 1) (aCons (eVar 2) aNil))))) (sAsg 3 (eCall (c .l_spoilt) (aCons (eVar 0) (aCons (eVar 1) (aCons (eVar 3) aNil)))))) sNil) (sSeq (sPar 2 3 (aCons (eCall (c .l_mixed) (aCons (eVar 0) (aCons (eVar 2) aNil))) (aCons (eCall (c .l_mixed) (aCons (eVar 0) (aCons (eVar 3) aNil))) aNil))) (sSeq (sAsg 4 (eFrz (fLst (aCons (eFrz (fLc (iSq (eVar 2)) (gN 7) tTrue (eMeth "Promises" "powers" [] (c .Promises_powers) (eVar 7) aNil) [7])) (aCons (eFrz (fLc (iSq (eVar 3)) (gN 7) tTrue (eMeth "Promises" "powers" [] (c .Promises_powers) (eVar 7) aNil) [7])) aNil))))) (sSeq (sAsg 5 (eCB listD (aCons (eVar 1) aNil))) (sSeq (sIf (tOr' (tNot' (tTru (eCall (c .l_truth) (aCons (eCall (c .is_border) (aCons (eVar 5) (aCons (eVar 2) (aCons (eVar 3) aNil)))) (aCons (eCall (c .l_due) (aCons (eVar 1) (aCons (eVar 2) (aCons (eVar 3) aNil)))) aNil))))) (tVal (eBin neE (eVar 5) (eVar 1)))) (sRet (eC (.bl false))) sNil) (sRet (eBin eqVD (eVar 4) (eFrz (fLst (aCons (eFrz (fLc (iSq (eVar 2)) (gN 7) tTrue (eMeth "Promises" "powers" [] (c .Promises_powers) (eVar 7) aNil) [7])) (aCons (eFrz (fLc (iSq (eVar 3)) (gN 7) tTrue (eMeth "Promises" "powers" [] (c .Promises_powers) (eVar 7) aNil) [7])) aNil)))))))))))))))
def g_l_go (c : Fn → DF) : DF := runF 1 8 (fb_l_go c)
def fb_law_l0 (c : Fn → DF) : DS := (sIf (tNot' (tTru (eCall (c .l_go) (aCons (eVar 1) aNil)))) (sRet (eC (.bl false))) sNil)
def fb_law (c : Fn → DF) : DS := (sSeq (sAsg 1 (eCall (c .l_bag) (aCons (eVar 0) aNil))) (sSeq (sFor (iRng1' (aCons (eC (.int 3)) aNil)) (gN 2) (fb_law_l0 c)) (sRet (eC (.bl true)))))
def g_law (c : Fn → DF) : DF := runF 1 3 (fb_law c)
def step (c : Fn → DF) : Fn → DF
  | .l_bag => g_l_bag c
  | .is_made_of => g_is_made_of c
  | .is_own_name => g_is_own_name c
  | .is_sign => g_is_sign c
  | .is_promise => g_is_promise c
  | .checked => g_checked c
  | .Promises_init => g_Promises_init c
  | .all_promises => g_all_promises c
  | .Promises_getitem => g_Promises_getitem c
  | .is_at_most => g_is_at_most c
  | .Promises_powers => g_Promises_powers c
  | .Promises_at_most => g_Promises_at_most c
  | .Promises_eq => g_Promises_eq c
  | .l_outside => g_l_outside c
  | .l_take => g_l_take c
  | .l_mixed => g_l_mixed c
  | .l_one => g_l_one c
  | .l_some => g_l_some c
  | .Promises_setitem => g_Promises_setitem c
  | .Promises_copied => g_Promises_copied c
  | .l_spoilt => g_l_spoilt c
  | .l_truth => g_l_truth c
  | .is_border => g_is_border c
  | .l_due => g_l_due c
  | .l_go => g_l_go c
  | .law => g_law c
def calls : Nat → Fn → DF
  | 0 => fun _ => gNo
  | n + 1 => step (calls n)
theorem ev_l_bag (n : Nat) (S : Sto) (a0 : Dv) : calls (n + 1) .l_bag S [a0] = kRun (fb_l_bag (calls n) [.va a0, .no] S) := ev_run S [a0] (fb_l_bag (calls n)) 1 2 rfl
theorem ev_checked (n : Nat) (S : Sto) (a0 : Dv) : calls (n + 1) .checked S [a0] = kRun (fb_checked (calls n) [.va a0, .no, .no] S) := ev_run S [a0] (fb_checked (calls n)) 1 3 rfl
theorem ev_Promises_init (n : Nat) (S : Sto) (a0 a1 : Dv) : calls (n + 1) .Promises_init S [a0, a1] = kRun (fb_Promises_init (calls n) [.va a0, .va a1] S) := ev_run S [a0, a1] (fb_Promises_init (calls n)) 2 2 rfl
theorem ev_all_promises (n : Nat) (S : Sto) (a0 : Dv) : calls (n + 1) .all_promises S [a0] = kRun (fb_all_promises (calls n) [.va a0, .no, .no, .no, .no, .no, .no] S) := ev_run S [a0] (fb_all_promises (calls n)) 1 7 rfl
theorem ev_Promises_getitem (n : Nat) (S : Sto) (a0 a1 : Dv) : calls (n + 1) .Promises_getitem S [a0, a1] = kRun (fb_Promises_getitem (calls n) [.va a0, .va a1] S) := ev_run S [a0, a1] (fb_Promises_getitem (calls n)) 2 2 rfl
theorem ev_Promises_powers (n : Nat) (S : Sto) (a0 : Dv) : calls (n + 1) .Promises_powers S [a0] = kRun (fb_Promises_powers (calls n) [.va a0, .no] S) := ev_run S [a0] (fb_Promises_powers (calls n)) 1 2 rfl
theorem ev_Promises_at_most (n : Nat) (S : Sto) (a0 a1 : Dv) : calls (n + 1) .Promises_at_most S [a0, a1] = kRun (fb_Promises_at_most (calls n) [.va a0, .va a1, .no] S) := ev_run S [a0, a1] (fb_Promises_at_most (calls n)) 2 3 rfl
theorem ev_Promises_eq (n : Nat) (S : Sto) (a0 a1 : Dv) : calls (n + 1) .Promises_eq S [a0, a1] = kRun (fb_Promises_eq (calls n) [.va a0, .va a1] S) := ev_run S [a0, a1] (fb_Promises_eq (calls n)) 2 2 rfl
theorem ev_l_outside (n : Nat) (S : Sto) (a0 a1 : Dv) : calls (n + 1) .l_outside S [a0, a1] = kRun (fb_l_outside (calls n) [.va a0, .va a1, .no, .no, .no, .no, .no, .no] S) := ev_run S [a0, a1] (fb_l_outside (calls n)) 2 8 rfl
theorem ev_l_take (n : Nat) (S : Sto) (a0 a1 : Dv) : calls (n + 1) .l_take S [a0, a1] = kRun (fb_l_take (calls n) [.va a0, .va a1, .no, .no, .no, .no, .no] S) := ev_run S [a0, a1] (fb_l_take (calls n)) 2 7 rfl
theorem ev_l_mixed (n : Nat) (S : Sto) (a0 a1 : Dv) : calls (n + 1) .l_mixed S [a0, a1] = kRun (fb_l_mixed (calls n) [.va a0, .va a1, .no, .no] S) := ev_run S [a0, a1] (fb_l_mixed (calls n)) 2 4 rfl
theorem ev_l_one (n : Nat) (S : Sto) (a0 a1 : Dv) : calls (n + 1) .l_one S [a0, a1] = kRun (fb_l_one (calls n) [.va a0, .va a1] S) := ev_run S [a0, a1] (fb_l_one (calls n)) 2 2 rfl
theorem ev_l_some (n : Nat) (S : Sto) (a0 a1 : Dv) : calls (n + 1) .l_some S [a0, a1] = kRun (fb_l_some (calls n) [.va a0, .va a1, .no] S) := ev_run S [a0, a1] (fb_l_some (calls n)) 2 3 rfl
theorem ev_Promises_setitem (n : Nat) (S : Sto) (a0 a1 a2 : Dv) : calls (n + 1) .Promises_setitem S [a0, a1, a2] = kRun (fb_Promises_setitem (calls n) [.va a0, .va a1, .va a2] S) := ev_run S [a0, a1, a2] (fb_Promises_setitem (calls n)) 3 3 rfl
theorem ev_Promises_copied (n : Nat) (S : Sto) (a0 : Dv) : calls (n + 1) .Promises_copied S [a0] = kRun (fb_Promises_copied (calls n) [.va a0] S) := ev_run S [a0] (fb_Promises_copied (calls n)) 1 1 rfl
theorem ev_l_spoilt (n : Nat) (S : Sto) (a0 a1 a2 : Dv) : calls (n + 1) .l_spoilt S [a0, a1, a2] = kRun (fb_l_spoilt (calls n) [.va a0, .va a1, .va a2, .no, .no, .no] S) := ev_run S [a0, a1, a2] (fb_l_spoilt (calls n)) 3 6 rfl
theorem ev_is_border (n : Nat) (S : Sto) (a0 a1 a2 : Dv) : calls (n + 1) .is_border S [a0, a1, a2] = kRun (fb_is_border (calls n) [.va a0, .va a1, .va a2, .no, .no, .no, .no] S) := ev_run S [a0, a1, a2] (fb_is_border (calls n)) 3 7 rfl
theorem ev_l_due (n : Nat) (S : Sto) (a0 a1 a2 : Dv) : calls (n + 1) .l_due S [a0, a1, a2] = kRun (fb_l_due (calls n) [.va a0, .va a1, .va a2, .no, .no, .no, .no, .no] S) := ev_run S [a0, a1, a2] (fb_l_due (calls n)) 3 8 rfl
theorem ev_l_go (n : Nat) (S : Sto) (a0 : Dv) : calls (n + 1) .l_go S [a0] = kRun (fb_l_go (calls n) [.va a0, .no, .no, .no, .no, .no, .no, .no] S) := ev_run S [a0] (fb_l_go (calls n)) 1 8 rfl
theorem ev_law (n : Nat) (S : Sto) (a0 : Dv) : calls (n + 1) .law S [a0] = kRun (fb_law (calls n) [.va a0, .no, .no] S) := ev_run S [a0] (fb_law (calls n)) 1 3 rfl
end DL
namespace DL
open PySem L2
def dnA : Nat → List Addr
  | 0 => [0]
  | n + 1 => (n + 1) :: dnA n
def adA (m : Nat) : List Addr := 3 :: 2 :: dnA m
def obsNA (m : Nat) (fa : List Ft) (fn : List Dfn) (ts : List He.Tab) (g : Addr → Option Obj) : AlN := obsN fa fn ts (He.frG g (adA m))
def hookA (m : Nat) (fa : List Ft) (fn : List Dfn) (ts : List He.Tab) : PySem.W.Hook where
  α := AlN
  obs := fun s => obsNA m fa fn ts s.heap.get?
  val := fun w => valN fn ts w
  says := fun w h => ∃ K : PySem.W.Frag, K.In h ∧ SaysN fa fn ts w K
  of := fun _ _ e => ⟨_, He.frG_in, e⟩
  keeps := fun _ _ _ ⟨K, hK, c⟩ k => ⟨K, PySem.W.Frag.In.keeps hK k, c⟩
theorem obsNA_eq {m : Nat} {fa : List Ft} {fn : List Dfn} {ts : List He.Tab} {g : Addr → Option Obj} {s : Shared} (h : ∀ a, g a = s.heap.get? a) : obsNA m fa fn ts g = (hookA m fa fn ts).obs s := by
  have e : g = s.heap.get? := funext h
  rw [e] <;> rfl
end DL
namespace Row
open PySem L2 DL
def top (i : Nat) : Stmt := PySem.Challenge.pw_foundtwice_k65_is_border_both_ways.main.body.getD i (.Pass ⟨0, 0, 0, 0⟩)
def inr (i j : Nat) : Stmt := match top i with
  | .ClassDef _ _ _ body _ _ _ _ _ _ _ => body.getD j (.Pass ⟨0, 0, 0, 0⟩)
  | s => s
abbrev st_l_bag : Stmt := top 22
theorem sc_l_bag : FnScope ["_law_script", "_law_cell"] ["_law_script"] (defScope st_l_bag) := ⟨rfl, rfl, rfl, by decide +kernel, rfl, by decide +kernel, by decide +kernel⟩
theorem bi_l_bag : BindN "_law_bag" "_law_bag" st_l_bag ["_law_script"] := fun _ _ _ _ _ _ us hl => match us, hl with | [_], _ => rfl
abbrev st_is_made_of : Stmt := top 6
theorem sc_is_made_of : FnScope ["thing", "letters", "letter"] ["thing", "letters"] (defScope st_is_made_of) := ⟨rfl, rfl, rfl, by decide +kernel, rfl, by decide +kernel, by decide +kernel⟩
theorem bi_is_made_of : BindN "is_made_of" "is_made_of" st_is_made_of ["thing", "letters"] := fun _ _ _ _ _ _ us hl => match us, hl with | [_, _], _ => rfl
abbrev st_is_own_name : Stmt := top 7
theorem sc_is_own_name : FnScope ["thing"] ["thing"] (defScope st_is_own_name) := ⟨rfl, rfl, rfl, by decide +kernel, rfl, by decide +kernel, by decide +kernel⟩
theorem bi_is_own_name : BindN "is_own_name" "is_own_name" st_is_own_name ["thing"] := fun _ _ _ _ _ _ us hl => match us, hl with | [_], _ => rfl
abbrev st_is_sign : Stmt := top 8
theorem sc_is_sign : FnScope ["thing"] ["thing"] (defScope st_is_sign) := ⟨rfl, rfl, rfl, by decide +kernel, rfl, by decide +kernel, by decide +kernel⟩
theorem bi_is_sign : BindN "is_sign" "is_sign" st_is_sign ["thing"] := fun _ _ _ _ _ _ us hl => match us, hl with | [_], _ => rfl
abbrev st_is_promise : Stmt := top 15
theorem sc_is_promise : FnScope ["sign", "power"] ["sign", "power"] (defScope st_is_promise) := ⟨rfl, rfl, rfl, by decide +kernel, rfl, by decide +kernel, by decide +kernel⟩
theorem bi_is_promise : BindN "is_promise" "is_promise" st_is_promise ["sign", "power"] := fun _ _ _ _ _ _ us hl => match us, hl with | [_, _], _ => rfl
abbrev st_checked : Stmt := top 16
theorem sc_checked : FnScope ["powers", "sign", "power"] ["powers"] (defScope st_checked) := ⟨rfl, rfl, rfl, by decide +kernel, rfl, by decide +kernel, by decide +kernel⟩
theorem bi_checked : BindN "checked" "checked" st_checked ["powers"] := fun _ _ _ _ _ _ us hl => match us, hl with | [_], _ => rfl
abbrev st_Promises_init : Stmt := inr 17 0
theorem sc_Promises_init : FnScope ["self", "powers"] ["self", "powers"] (defScope st_Promises_init) := ⟨rfl, rfl, rfl, by decide +kernel, rfl, by decide +kernel, by decide +kernel⟩
abbrev st_all_promises : Stmt := top 19
theorem sc_all_promises : FnScope ["signs", "rows", "sign", "longer", "row", "power", "more"] ["signs"] (defScope st_all_promises) := ⟨rfl, rfl, rfl, by decide +kernel, rfl, by decide +kernel, by decide +kernel⟩
theorem bi_all_promises : BindN "all_promises" "all_promises" st_all_promises ["signs"] := fun _ _ _ _ _ _ us hl => match us, hl with | [_], _ => rfl
abbrev st_Promises_getitem : Stmt := inr 17 5
theorem sc_Promises_getitem : FnScope ["self", "sign"] ["self", "sign"] (defScope st_Promises_getitem) := ⟨rfl, rfl, rfl, by decide +kernel, rfl, by decide +kernel, by decide +kernel⟩
theorem bi_Promises_getitem : BindN "__getitem__" "Promises.__getitem__" st_Promises_getitem ["self", "sign"] := fun _ _ _ _ _ _ us hl => match us, hl with | [_, _], _ => rfl
abbrev st_is_at_most : Stmt := top 12
theorem sc_is_at_most : FnScope ["power", "other"] ["power", "other"] (defScope st_is_at_most) := ⟨rfl, rfl, rfl, by decide +kernel, rfl, by decide +kernel, by decide +kernel⟩
theorem bi_is_at_most : BindN "is_at_most" "is_at_most" st_is_at_most ["power", "other"] := fun _ _ _ _ _ _ us hl => match us, hl with | [_, _], _ => rfl
abbrev st_Promises_powers : Stmt := inr 17 9
theorem sc_Promises_powers : FnScope ["self", "sign"] ["self"] (defScope st_Promises_powers) := ⟨rfl, rfl, rfl, by decide +kernel, rfl, by decide +kernel, by decide +kernel⟩
theorem bi_Promises_powers : BindN "powers" "Promises.powers" st_Promises_powers ["self"] := fun _ _ _ _ _ _ us hl => match us, hl with | [_], _ => rfl
abbrev st_Promises_at_most : Stmt := inr 17 11
theorem sc_Promises_at_most : FnScope ["self", "other", "sign"] ["self", "other"] (defScope st_Promises_at_most) := ⟨rfl, rfl, rfl, by decide +kernel, rfl, by decide +kernel, by decide +kernel⟩
theorem bi_Promises_at_most : BindN "at_most" "Promises.at_most" st_Promises_at_most ["self", "other"] := fun _ _ _ _ _ _ us hl => match us, hl with | [_, _], _ => rfl
abbrev st_Promises_eq : Stmt := inr 17 1
theorem sc_Promises_eq : FnScope ["self", "other"] ["self", "other"] (defScope st_Promises_eq) := ⟨rfl, rfl, rfl, by decide +kernel, rfl, by decide +kernel, by decide +kernel⟩
theorem bi_Promises_eq : BindN "__eq__" "Promises.__eq__" st_Promises_eq ["self", "other"] := fun _ _ _ _ _ _ us hl => match us, hl with | [_, _], _ => rfl
abbrev st_l_outside : Stmt := top 28
theorem sc_l_outside : FnScope ["_law_signs", "_law_tops", "_law_some_here", "_law_left", "_law_found", "_law_one_here", "_law_top", "_law_less"] ["_law_signs", "_law_tops"] (defScope st_l_outside) := ⟨rfl, rfl, rfl, by decide +kernel, rfl, by decide +kernel, by decide +kernel⟩
theorem bi_l_outside : BindN "_law_outside" "_law_outside" st_l_outside ["_law_signs", "_law_tops"] := fun _ _ _ _ _ _ us hl => match us, hl with | [_, _], _ => rfl
abbrev st_l_take : Stmt := top 23
theorem sc_l_take : FnScope ["_law_bag_here", "_law_upto", "_law_cell", "_law_mixed_here", "_law_drawn", "_law_early", "_law_second"] ["_law_bag_here", "_law_upto"] (defScope st_l_take) := ⟨rfl, rfl, rfl, by decide +kernel, rfl, by decide +kernel, by decide +kernel⟩
theorem bi_l_take : BindN "_law_take" "_law_take" st_l_take ["_law_bag_here", "_law_upto"] := fun _ _ _ _ _ _ us hl => match us, hl with | [_, _], _ => rfl
abbrev st_l_mixed : Stmt := top 25
theorem sc_l_mixed : FnScope ["_law_bag_here", "_law_things", "_law_found", "_law_thing"] ["_law_bag_here", "_law_things"] (defScope st_l_mixed) := ⟨rfl, rfl, rfl, by decide +kernel, rfl, by decide +kernel, by decide +kernel⟩
theorem bi_l_mixed : BindN "_law_mixed" "_law_mixed" st_l_mixed ["_law_bag_here", "_law_things"] := fun _ _ _ _ _ _ us hl => match us, hl with | [_, _], _ => rfl
abbrev st_l_one : Stmt := top 24
theorem sc_l_one : FnScope ["_law_bag_here", "_law_some_here"] ["_law_bag_here", "_law_some_here"] (defScope st_l_one) := ⟨rfl, rfl, rfl, by decide +kernel, rfl, by decide +kernel, by decide +kernel⟩
theorem bi_l_one : BindN "_law_one" "_law_one" st_l_one ["_law_bag_here", "_law_some_here"] := fun _ _ _ _ _ _ us hl => match us, hl with | [_, _], _ => rfl
abbrev st_l_some : Stmt := top 27
theorem sc_l_some : FnScope ["_law_bag_here", "_law_signs", "_law_sign"] ["_law_bag_here", "_law_signs"] (defScope st_l_some) := ⟨rfl, rfl, rfl, by decide +kernel, rfl, by decide +kernel, by decide +kernel⟩
theorem bi_l_some : BindN "_law_some" "_law_some" st_l_some ["_law_bag_here", "_law_signs"] := fun _ _ _ _ _ _ us hl => match us, hl with | [_, _], _ => rfl
abbrev st_Promises_setitem : Stmt := inr 17 6
theorem sc_Promises_setitem : FnScope ["self", "sign", "power"] ["self", "sign", "power"] (defScope st_Promises_setitem) := ⟨rfl, rfl, rfl, by decide +kernel, rfl, by decide +kernel, by decide +kernel⟩
theorem bi_Promises_setitem : BindN "__setitem__" "Promises.__setitem__" st_Promises_setitem ["self", "sign", "power"] := fun _ _ _ _ _ _ us hl => match us, hl with | [_, _, _], _ => rfl
abbrev st_Promises_copied : Stmt := inr 17 10
theorem sc_Promises_copied : FnScope ["self"] ["self"] (defScope st_Promises_copied) := ⟨rfl, rfl, rfl, by decide +kernel, rfl, by decide +kernel, by decide +kernel⟩
theorem bi_Promises_copied : BindN "copied" "Promises.copied" st_Promises_copied ["self"] := fun _ _ _ _ _ _ us hl => match us, hl with | [_], _ => rfl
abbrev st_l_spoilt : Stmt := top 29
theorem sc_l_spoilt : FnScope ["_law_bag_here", "_law_signs", "_law_some_here", "_law_way", "_law_at", "_law_changed"] ["_law_bag_here", "_law_signs", "_law_some_here"] (defScope st_l_spoilt) := ⟨rfl, rfl, rfl, by decide +kernel, rfl, by decide +kernel, by decide +kernel⟩
theorem bi_l_spoilt : BindN "_law_spoilt" "_law_spoilt" st_l_spoilt ["_law_bag_here", "_law_signs", "_law_some_here"] := fun _ _ _ _ _ _ us hl => match us, hl with | [_, _, _], _ => rfl
abbrev st_l_truth : Stmt := top 26
theorem sc_l_truth : FnScope ["_law_told", "_law_due_here"] ["_law_told", "_law_due_here"] (defScope st_l_truth) := ⟨rfl, rfl, rfl, by decide +kernel, rfl, by decide +kernel, by decide +kernel⟩
theorem bi_l_truth : BindN "_law_truth" "_law_truth" st_l_truth ["_law_told", "_law_due_here"] := fun _ _ _ _ _ _ us hl => match us, hl with | [_, _], _ => rfl
abbrev st_is_border : Stmt := top 20
theorem sc_is_border : FnScope ["signs", "greatest", "least", "promises", "below", "above", "one"] ["signs", "greatest", "least"] (defScope st_is_border) := ⟨rfl, rfl, rfl, by decide +kernel, rfl, by decide +kernel, by decide +kernel⟩
theorem bi_is_border : BindN "is_border" "is_border" st_is_border ["signs", "greatest", "least"] := fun _ _ _ _ _ _ us hl => match us, hl with | [_, _, _], _ => rfl
abbrev st_l_due : Stmt := top 30
theorem sc_l_due : FnScope ["_law_signs", "_law_tops", "_law_bottoms", "_law_one_here", "_law_below", "_law_above", "_law_top", "_law_bottom"] ["_law_signs", "_law_tops", "_law_bottoms"] (defScope st_l_due) := ⟨rfl, rfl, rfl, by decide +kernel, rfl, by decide +kernel, by decide +kernel⟩
theorem bi_l_due : BindN "_law_due" "_law_due" st_l_due ["_law_signs", "_law_tops", "_law_bottoms"] := fun _ _ _ _ _ _ us hl => match us, hl with | [_, _, _], _ => rfl
abbrev st_l_go : Stmt := top 31
theorem sc_l_go : FnScope ["_law_bag_here", "_law_signs", "_law_tops", "_law_bottoms", "_law_words", "_law_given", "_law_k", "_law_one_here"] ["_law_bag_here"] (defScope st_l_go) := ⟨rfl, rfl, rfl, by decide +kernel, rfl, by decide +kernel, by decide +kernel⟩
theorem bi_l_go : BindN "_law_go" "_law_go" st_l_go ["_law_bag_here"] := fun _ _ _ _ _ _ us hl => match us, hl with | [_], _ => rfl
abbrev st_law : Stmt := top 32
theorem sc_law : FnScope ["_law_script", "_law_bag_here", "_law_go_here"] ["_law_script"] (defScope st_law) := ⟨rfl, rfl, rfl, by decide +kernel, rfl, by decide +kernel, by decide +kernel⟩
theorem bi_law : BindN "law" "law" st_law ["_law_script"] := fun _ _ _ _ _ _ us hl => match us, hl with | [_], _ => rfl
def dd_l_bag : Dfn := ⟨fun K => He.ga K "_law_bag", "_law_bag", "_law_bag", defArgs st_l_bag, defBody st_l_bag, defScope st_l_bag, [], []⟩
def dd_is_made_of : Dfn := ⟨fun K => He.ga K "is_made_of", "is_made_of", "is_made_of", defArgs st_is_made_of, defBody st_is_made_of, defScope st_is_made_of, [], []⟩
def dd_is_own_name : Dfn := ⟨fun K => He.ga K "is_own_name", "is_own_name", "is_own_name", defArgs st_is_own_name, defBody st_is_own_name, defScope st_is_own_name, [], []⟩
def dd_is_sign : Dfn := ⟨fun K => He.ga K "is_sign", "is_sign", "is_sign", defArgs st_is_sign, defBody st_is_sign, defScope st_is_sign, [], []⟩
def dd_is_promise : Dfn := ⟨fun K => He.ga K "is_promise", "is_promise", "is_promise", defArgs st_is_promise, defBody st_is_promise, defScope st_is_promise, [], []⟩
def dd_checked : Dfn := ⟨fun K => He.ga K "checked", "checked", "checked", defArgs st_checked, defBody st_checked, defScope st_checked, [], []⟩
def dd_Promises_init : Dfn := ⟨fun K => He.ma K (He.ga K "Promises") "__init__", "__init__", "Promises.__init__", defArgs st_Promises_init, defBody st_Promises_init, defScope st_Promises_init, [.non], []⟩
def dd_all_promises : Dfn := ⟨fun K => He.ga K "all_promises", "all_promises", "all_promises", defArgs st_all_promises, defBody st_all_promises, defScope st_all_promises, [], []⟩
def dd_Promises_getitem : Dfn := ⟨fun K => He.ma K (He.ga K "Promises") "__getitem__", "__getitem__", "Promises.__getitem__", defArgs st_Promises_getitem, defBody st_Promises_getitem, defScope st_Promises_getitem, [], []⟩
def dd_is_at_most : Dfn := ⟨fun K => He.ga K "is_at_most", "is_at_most", "is_at_most", defArgs st_is_at_most, defBody st_is_at_most, defScope st_is_at_most, [], []⟩
def dd_Promises_powers : Dfn := ⟨fun K => He.ma K (He.ga K "Promises") "powers", "powers", "Promises.powers", defArgs st_Promises_powers, defBody st_Promises_powers, defScope st_Promises_powers, [], []⟩
def dd_Promises_at_most : Dfn := ⟨fun K => He.ma K (He.ga K "Promises") "at_most", "at_most", "Promises.at_most", defArgs st_Promises_at_most, defBody st_Promises_at_most, defScope st_Promises_at_most, [], []⟩
def dd_Promises_eq : Dfn := ⟨fun K => He.ma K (He.ga K "Promises") "__eq__", "__eq__", "Promises.__eq__", defArgs st_Promises_eq, defBody st_Promises_eq, defScope st_Promises_eq, [], []⟩
def dd_l_outside : Dfn := ⟨fun K => He.ga K "_law_outside", "_law_outside", "_law_outside", defArgs st_l_outside, defBody st_l_outside, defScope st_l_outside, [], []⟩
def dd_l_take : Dfn := ⟨fun K => He.ga K "_law_take", "_law_take", "_law_take", defArgs st_l_take, defBody st_l_take, defScope st_l_take, [], []⟩
def dd_l_mixed : Dfn := ⟨fun K => He.ga K "_law_mixed", "_law_mixed", "_law_mixed", defArgs st_l_mixed, defBody st_l_mixed, defScope st_l_mixed, [], []⟩
def dd_l_one : Dfn := ⟨fun K => He.ga K "_law_one", "_law_one", "_law_one", defArgs st_l_one, defBody st_l_one, defScope st_l_one, [], []⟩
def dd_l_some : Dfn := ⟨fun K => He.ga K "_law_some", "_law_some", "_law_some", defArgs st_l_some, defBody st_l_some, defScope st_l_some, [], []⟩
def dd_Promises_setitem : Dfn := ⟨fun K => He.ma K (He.ga K "Promises") "__setitem__", "__setitem__", "Promises.__setitem__", defArgs st_Promises_setitem, defBody st_Promises_setitem, defScope st_Promises_setitem, [], []⟩
def dd_Promises_copied : Dfn := ⟨fun K => He.ma K (He.ga K "Promises") "copied", "copied", "Promises.copied", defArgs st_Promises_copied, defBody st_Promises_copied, defScope st_Promises_copied, [], []⟩
def dd_l_spoilt : Dfn := ⟨fun K => He.ga K "_law_spoilt", "_law_spoilt", "_law_spoilt", defArgs st_l_spoilt, defBody st_l_spoilt, defScope st_l_spoilt, [], []⟩
def dd_l_truth : Dfn := ⟨fun K => He.ga K "_law_truth", "_law_truth", "_law_truth", defArgs st_l_truth, defBody st_l_truth, defScope st_l_truth, [], []⟩
def dd_is_border : Dfn := ⟨fun K => He.ga K "is_border", "is_border", "is_border", defArgs st_is_border, defBody st_is_border, defScope st_is_border, [], []⟩
def dd_l_due : Dfn := ⟨fun K => He.ga K "_law_due", "_law_due", "_law_due", defArgs st_l_due, defBody st_l_due, defScope st_l_due, [], []⟩
def dd_l_go : Dfn := ⟨fun K => He.ga K "_law_go", "_law_go", "_law_go", defArgs st_l_go, defBody st_l_go, defScope st_l_go, [], []⟩
def dd_law : Dfn := ⟨fun K => He.ga K "law", "law", "law", defArgs st_law, defBody st_law, defScope st_law, [], []⟩
def fn : List Dfn := [dd_l_bag, dd_is_made_of, dd_is_own_name, dd_is_sign, dd_is_promise, dd_checked, dd_Promises_init, dd_all_promises, dd_Promises_getitem, dd_is_at_most, dd_Promises_powers, dd_Promises_at_most, dd_Promises_eq, dd_l_outside, dd_l_take, dd_l_mixed, dd_l_one, dd_l_some, dd_Promises_setitem, dd_Promises_copied, dd_l_spoilt, dd_l_truth, dd_is_border, dd_l_due, dd_l_go, dd_law]
def ts : List He.Tab := []
def fa0 : List Ft := [.free "abs", .free "dict", .free "int", .free "isinstance", .free "len", .free "list", .free "range", .free "set", .free "sorted", .free "str", .con "LETTERS" c_LETTERS, .con "RESERVED" c_RESERVED, .con "SPLITS" c_SPLITS, .con "POWERS" c_POWERS, .glo "_law_bag", .glo "is_made_of", .glo "is_own_name", .glo "is_sign", .glo "is_promise", .glo "checked"]
def fa1 : List Ft := [.glo "all_promises", .glo "is_at_most", .glo "_law_outside", .glo "_law_take", .glo "_law_mixed", .glo "_law_one", .glo "_law_some", .glo "_law_spoilt", .glo "_law_truth", .glo "is_border", .glo "_law_due", .glo "_law_go", .glo "law", .glo "Promises", faB (.cls "Promises"), faB (.mkr "Promises"), faB (.noat "Promises" "named"), isoB "Promises" su_Promises, fnmB "Promises" "__getitem__", eqfB "Promises"]
def fa2 : List Ft := [owfB "Promises", faB (.meth "Promises" "__getitem__"), faB (.meth "Promises" "powers"), faB (.meth "Promises" "at_most"), faB (.meth "Promises" "__eq__"), faB (.meth "Promises" "__setitem__"), faB (.meth "Promises" "copied")]
def fa : List Ft := fa0 ++ fa1 ++ fa2
def loose0 : List PySem.Str := ["FoundError", "BadPower", "LETTERS", "RESERVED", "is_made_of", "is_own_name", "is_sign", "POWERS", "SPLITS", "is_at_most", "meet_of", "join_of", "is_promise", "checked", "Promises", "all_promises", "is_border", "_law_bag", "_law_take", "_law_one"]
def loose1 : List PySem.Str := ["_law_mixed", "_law_truth", "_law_some", "_law_outside", "_law_spoilt", "_law_due", "_law_go"]
def loose : List PySem.Str := loose0 ++ loose1
abbrev R : PySem.W.OpenRow := PySem.W.OpenLaw.row PySem.Challenge.rw_foundtwice_k65_is_border_both_ways
abbrev hk : PySem.W.Hook := hookA 900 fa fn ts
def ob (s : PySem.W.SharedT) : AlN := obsNA 900 fa fn ts (HandSHeadRun.getT s)
theorem ob_eq (s : PySem.W.SharedT) : ob s = hk.obs s.abs := obsNA_eq (HandSHeadRun.getT_eq s)
theorem map3 {A B C D : Type} {x : Option A} {f : A → B} {g : A → C} {h : A → D} {a : B} {b : C} {c : D} (h1 : x.map f = some a) (h2 : x.map g = some b) (h3 : x.map h = some c) : x.map (fun s => (f s, g s, h s)) = some (a, b, c) := by
  cases x with
  | none => cases h1
  | some s =>
    injection h1 with h1
    injection h2 with h2
    injection h3 with h3
    show some (f s, g s, h s) = _
    rw [h1, h2, h3]
open PySem.W PySem.Calls PyProof.Rows in
theorem run_w1 (w : World) (os : OsState) : (HandSHeadRun.endF (HandSHeadRun.stepQ (HandSHeadRun.denQ HandSHeadRun.tabQ) R.prog w) 20000 R.prog w os).map (fun s => HandSHeadRun.looksF R.prog (boot_heap (w).params) s.abs) = some true := by
  kernel_rfl
open PySem.W PySem.Calls PyProof.Rows in
theorem run_w2 (w : World) (os : OsState) : (HandSHeadRun.endF (HandSHeadRun.stepQ (HandSHeadRun.denQ HandSHeadRun.tabQ) R.prog w) 20000 R.prog w os).map (fun s => HandSHeadRun.seenQ (PySem.W.view R.prog [32]) loose (importedModules R.prog.main.body) (fun s => xlAt (PySem.W.view R.prog [32]) [] s && recOk R.toRowW.records s) s.abs) = some (openGood (PySem.W.view R.prog [32]) loose) := by
  kernel_rfl
open PySem.W PySem.Calls PyProof.Rows in
theorem run_w3 (w : World) (os : OsState) : (HandSHeadRun.endF (HandSHeadRun.stepQ (HandSHeadRun.denQ HandSHeadRun.tabQ) R.prog w) 20000 R.prog w os).map (fun s => ob s) = some (hk.val w) := by
  kernel_rfl
theorem run_w (w : World) : HandSHeadRun.RunEq R (PySem.W.view R.prog [32]) hk ob 20000 loose w := fun os => map3 (run_w1 w os) (run_w2 w os) (run_w3 w os)
theorem run (w : World) : HandSHeadRun.RunEq R (PySem.W.view R.prog [32]) hk ob 20000 loose w := run_w w
end Row
namespace DL
open PySem L2
inductive Pw where
  | q | s | f | t | r
deriving DecidableEq
def pwS : Pw → Str
  | .q => "quiet" | .s => "shown" | .f => "fails" | .t => "turns" | .r => "free"
def Pw.le : Pw → Pw → Bool
  | .q, _ => true
  | _, .r => true
  | .s, .q => false
  | .s, _ => true
  | a, b => decide (a = b)
theorem pwS_inj {a b : Pw} (h : pwS a = pwS b) : a = b := by
  revert h
  cases a <;> cases b <;> first | (intro _; rfl) | (intro h; exact absurd h (by decide +kernel))
theorem atm_ok (f : Nat) (S : Sto) (a b : Pw) : calls (f + 1) .is_at_most S [.str (pwS a), .str (pwS b)] = .ok (.bl (a.le b)) S := by
  cases a <;> cases b <;> kernel_rfl
abbrev PM := List (Str × Pw)
def encN (m : PM) : List (Key × Dv) := m.map fun q => (.inr q.1, .str (pwS q.2))
def lkP : PM → Str → Option Pw
  | [], _ => none
  | (k, p) :: m, s => if k = s then some p else lkP m s
theorem lkP_cons (k : Str) (p : Pw) (m : PM) (s : Str) : lkP ((k, p) :: m) s = if k = s then some p else lkP m s := rfl
def pw (m : PM) (s : Str) : Pw := (lkP m s).getD .r
def ksP (m : PM) : List Str := m.map (·.1)
theorem lkP_none : ∀ {m : PM} {s : Str}, lkP m s = none ↔ s ∉ ksP m
  | [], s => by simp [lkP, ksP]
  | (k, p) :: m, s => by
    unfold lkP
    by_cases h : k = s
    · simp [h, ksP]
    · rw [if_neg h, lkP_none (m := m)]
      simp [ksP, Ne.symm h]
theorem lkP_mem : ∀ {m : PM} {s : Str} {p : Pw}, lkP m s = some p → (s, p) ∈ m
  | (k, p') :: m, s, p, h => by
    unfold lkP at h
    by_cases e : k = s
    · rw [if_pos e] at h; cases h; subst e; exact List.mem_cons_self
    · rw [if_neg e] at h; exact List.mem_cons_of_mem _ (lkP_mem h)
theorem lkP_of : ∀ {m : PM} {s : Str} {p : Pw}, (ksP m).Nodup → (s, p) ∈ m → lkP m s = some p
  | (k, p') :: m, s, p, nd, h => by
    unfold lkP
    simp only [ksP, List.map_cons, List.nodup_cons] at nd
    rcases List.mem_cons.mp h with e | h
    · cases e; rw [if_pos rfl]
    · have : s ∈ m.map (·.1) := List.mem_map.mpr ⟨_, h, rfl⟩
      rw [if_neg (fun e => nd.1 (by rw [e]; exact this))]
      exact lkP_of nd.2 h
theorem valD_enc : ∀ (m : PM) (s : Str), valD (encN m) (.inr s) = (lkP m s).map fun p => .str (pwS p)
  | [], s => rfl
  | (k, p) :: m, s => by
    have ih := valD_enc m s
    unfold valD at ih ⊢
    simp only [encN, List.map_cons, List.find?_cons] at ih ⊢
    unfold lkP
    by_cases h : k = s
    · subst h; simp
    · have h1 : decide ((Sum.inr k : Key) = Sum.inr s) = false := by simpa using h
      rw [h1, if_neg h]
      exact ih
theorem strKs_enc : ∀ m : PM, strKs (encN m) = some (ksP m)
  | [] => rfl
  | (k, p) :: m => by
    have ih := strKs_enc m
    simp only [encN, List.map_cons, strKs, ksP] at ih ⊢
    rw [ih]; rfl
theorem strVs_enc : ∀ m : PM, strVs (encN m) = some (m.map fun q => (.inr q.1, pwS q.2))
  | [] => rfl
  | (k, p) :: m => by
    have ih := strVs_enc m
    simp only [encN, List.map_cons, strVs] at ih ⊢
    rw [ih]; rfl
theorem encN_len (m : PM) : (encN m).length = m.length := by simp [encN]
theorem putD_enc_new {m : PM} {s : Str} {p : Pw} (h : s ∉ ksP m) : putD (encN m) (.inr s) (.str (pwS p)) = encN (m ++ [(s, p)]) := by
  unfold putD
  have : ((encN m).any fun kv => decide (kv.1 = (Sum.inr s : Key))) = false := by
    rw [List.any_eq_false]
    intro kv hk
    obtain ⟨q, hq, rfl⟩ := List.mem_map.mp hk
    have : q.1 ≠ s := fun e => h (List.mem_map.mpr ⟨q, hq, e⟩)
    simpa using this
  rw [this, if_neg (by decide)]
  simp [encN]
theorem dropD_enc (m : PM) (s : Str) : dropD (encN m) (.inr s) = encN (m.filter fun q => decide (q.1 ≠ s)) := by
  unfold dropD encN
  rw [List.filter_map]
  congr 1
  apply List.filter_congr
  intro q _
  simp
theorem nd_le : ∀ (l1 l2 : List Str), l1.Nodup → (∀ x ∈ l1, x ∈ l2) → l1.length ≤ l2.length
  | [], _, _, _ => Nat.zero_le _
  | x :: t, l2, nd, h => by
    have nd' := List.nodup_cons.mp nd
    have hx : x ∈ l2 := h x List.mem_cons_self
    have := nd_le t (l2.erase x) nd'.2 fun y hy => (List.mem_erase_of_ne (fun e => nd'.1 (by rw [← e]; exact hy))).mpr (h y (List.mem_cons_of_mem _ hy))
    rw [List.length_erase_of_mem hx] at this
    have : 0 < l2.length := List.length_pos_of_mem hx
    simp only [List.length_cons]
    omega
structure Nm (m : PM) : Prop where
  nd : (ksP m).Nodup
  nf : ∀ q ∈ m, q.2 ≠ .r
theorem Nm.mem {m : PM} (h : Nm m) {s : Str} : s ∈ ksP m ↔ pw m s ≠ .r := by
  constructor
  · intro hs
    cases e : lkP m s with
    | none => exact absurd hs (lkP_none.mp e)
    | some p =>
      unfold pw
      rw [e]
      exact h.nf _ (lkP_mem e)
  · intro hp
    by_cases hs : s ∈ ksP m
    · exact hs
    · unfold pw at hp
      rw [lkP_none.mpr hs] at hp
      exact absurd rfl hp
theorem Nm.lk {m : PM} (h : Nm m) (s : Str) : lkP m s = if pw m s = .r then none else some (pw m s) := by
  cases e : lkP m s with
  | none => simp [pw, e]
  | some p =>
    have : p ≠ .r := h.nf _ (lkP_mem e)
    simp [pw, e, this]
theorem valS_enc (m : PM) (s : Str) : valS (m.map fun q => ((.inr q.1 : Key), pwS q.2)) (.inr s) = (lkP m s).map pwS := by
  induction m with
  | nil => rfl
  | cons q m ih =>
    obtain ⟨k, p⟩ := q
    unfold valS at ih ⊢
    simp only [List.map_cons, List.find?_cons] at ih ⊢
    unfold lkP
    by_cases h : k = s
    · subst h; simp
    · have h1 : decide ((Sum.inr k : Key) = Sum.inr s) = false := by simpa using h
      rw [h1, if_neg h]
      exact ih
def hitP (m n : PM) : Bool := (m.length == n.length) && m.all fun q => decide (lkP n q.1 = some q.2)
theorem hit_all (m n : PM) : hitS (n.map fun q => ((.inr q.1 : Key), pwS q.2)) (m.map fun q => ((.inr q.1 : Key), pwS q.2)) = m.all fun q => decide (lkP n q.1 = some q.2) := by
  unfold hitS
  rw [List.all_map]
  congr 1
  funext q
  simp only [Function.comp]
  rw [valS_enc]
  cases e : lkP n q.1 with
  | none => simp
  | some p =>
    simp only [Option.map_some]
    by_cases h : p = q.2
    · subst h; simp
    · have : pwS p ≠ pwS q.2 := fun z => h (pwS_inj z)
      simp [h, Ne.symm this]
end DL
namespace DL
open PySem L2
def pushK (y : Str → Pw) (acc : PM) (k : Str) : PM := if k ∈ ksP acc then acc else acc ++ [(k, y k)]
def ded (y : Str → Pw) (acc : PM) (ks : List Str) : PM := ks.foldl (pushK y) acc
structure Yes (y : Str → Pw) (m : PM) : Prop where
  nd : (ksP m).Nodup
  v : ∀ q ∈ m, q.2 = y q.1
theorem putD_push {y : Str → Pw} {m : PM} (h : Yes y m) (k : Str) : putD (encN m) (.inr k) (.str (pwS (y k))) = encN (pushK y m k) := by
  unfold pushK
  split
  · rename_i hk
    unfold putD
    have : ((encN m).any fun kv => decide (kv.1 = (Sum.inr k : Key))) = true := by
      rw [List.any_eq_true]
      obtain ⟨q, hq, rfl⟩ := List.mem_map.mp hk
      exact ⟨(.inr q.1, .str (pwS q.2)), List.mem_map.mpr ⟨q, hq, rfl⟩, by simp⟩
    rw [if_pos this]
    unfold encN
    rw [List.map_map]
    apply List.map_congr_left
    intro q hq
    simp only [Function.comp]
    by_cases e : q.1 = k
    · subst e; rw [if_pos rfl, h.v q hq]
    · rw [if_neg (fun z => e (Sum.inr.inj z))]
  · rename_i hk
    exact putD_enc_new hk
theorem Yes.push {y : Str → Pw} {m : PM} (h : Yes y m) (k : Str) : Yes y (pushK y m k) := by
  unfold pushK
  split
  · exact h
  · rename_i hk
    refine ⟨?_, fun q hq => ?_⟩
    · unfold ksP at hk ⊢
      rw [List.map_append, List.nodup_append]
      refine ⟨h.nd, by simp, fun a ha b hb => ?_⟩
      simp at hb
      subst hb
      exact fun e => hk (by rw [← e]; exact ha)
    · rcases List.mem_append.mp hq with hq | hq
      · exact h.v q hq
      · simp at hq; subst hq; rfl
theorem push_len (y : Str → Pw) (m : PM) (k : Str) : (pushK y m k).length ≤ m.length + 1 := by
  unfold pushK
  split <;> simp
theorem push_mem {y : Str → Pw} {m : PM} {k s : Str} : s ∈ ksP (pushK y m k) ↔ s ∈ ksP m ∨ s = k := by
  unfold pushK
  split
  · rename_i hk
    constructor
    · exact .inl
    · rintro (h | rfl)
      · exact h
      · exact hk
  · simp [ksP]
theorem ded_nd (y : Str → Pw) : ∀ (ks : List Str) (m : PM), ks.Nodup → (∀ k ∈ ks, k ∉ ksP m) → ded y m ks = m ++ ks.map fun k => (k, y k)
  | [], m, _, _ => by simp [ded]
  | k :: ks, m, nd, h => by
    have nd' := List.nodup_cons.mp nd
    have e : pushK y m k = m ++ [(k, y k)] := if_neg (h k List.mem_cons_self)
    have := ded_nd y ks (pushK y m k) nd'.2 fun x hx => by
      rw [push_mem]
      rintro (z | z)
      · exact h x (List.mem_cons_of_mem _ hx) z
      · exact nd'.1 (by rw [← z]; exact hx)
    unfold ded at this ⊢
    rw [List.foldl_cons, this, e]
    simp
theorem dcR_enc {i : Nat} {tt : DT} {tk tv : DE} {e : Env} {S : Sto} (y : Str → Pw) (p : Str → Bool) : ∀ (ks : List Str) (acc : PM), Yes y acc → acc.length + ks.length < 100000 →
    (∀ k ∈ ks, tt (e.set i (.va (.str k))) S = .ok (p k) S ∧ (p k = true → tk (e.set i (.va (.str k))) S = .ok (.str k) S ∧ tv (e.set i (.va (.str k))) S = .ok (.str (pwS (y k))) S)) →
    dcR (gN i) tt tk tv e (ks.map .str) S (encN acc) = .ok (encN (ded y acc (ks.filter p))) S
  | [], acc, _, _, _ => rfl
  | k :: ks, acc, ha, hl, h => by
    obtain ⟨h1, h2⟩ := h k List.mem_cons_self
    have h' := fun x hx => h x (List.mem_cons_of_mem _ hx)
    simp only [List.length_cons] at hl
    rw [List.map_cons]
    unfold dcR
    simp only [ev_gN, h1]
    cases hp : p k with
    | false =>
      rw [List.filter_cons_of_neg (by simp [hp])]
      exact dcR_enc y p ks acc ha (by omega) h'
    | true =>
      obtain ⟨h3, h4⟩ := h2 hp
      have hs : (encN acc).length < sizeLine := by rw [encN_len]; exact line_lt _ (by omega)
      rw [List.filter_cons_of_pos hp]
      simp only [if_pos, h3, h4, keyD, hs, putD_push ha]
      have := push_len y acc k
      exact dcR_enc y p ks (pushK y acc k) (ha.push k) (by omega) h'
theorem yes_nil (y : Str → Pw) : Yes y [] := ⟨by simp [ksP], fun q h => by simp at h⟩
theorem kDc_enc {i : Nat} {tt : DT} {tk tv : DE} {vs : List Nat} {e : Env} {S : Sto} (y : Str → Pw) (p : Str → Bool) (ks : List Str) (hl : ks.length < 100000)
    (h : ∀ k ∈ ks, tt ((wipeE e vs).set i (.va (.str k))) S = .ok (p k) S ∧ (p k = true → tk ((wipeE e vs).set i (.va (.str k))) S = .ok (.str k) S ∧ tv ((wipeE e vs).set i (.va (.str k))) S = .ok (.str (pwS (y k))) S)) :
    kDc (gN i) tt tk tv vs e (ks.map .str) S = .ok (encN (ded y [] (ks.filter p))) S := by
  unfold kDc
  have := dcR_enc (S := S) (e := wipeE e vs) y p ks [] (yes_nil y) (by simpa using hl) h
  have e0 : encN [] = [] := rfl
  rw [e0] at this
  rw [this]
theorem Yes.lk {y : Str → Pw} {m : PM} (h : Yes y m) (s : Str) : lkP m s = if s ∈ ksP m then some (y s) else none := by
  by_cases hs : s ∈ ksP m
  · rw [if_pos hs]
    obtain ⟨q, hq, rfl⟩ := List.mem_map.mp hs
    rw [← h.v q hq]
    exact lkP_of h.nd hq
  · rw [if_neg hs]; exact lkP_none.mpr hs
theorem Yes.pw {y : Str → Pw} {m : PM} (h : Yes y m) (s : Str) : pw m s = if s ∈ ksP m then y s else .r := by
  unfold DL.pw
  rw [h.lk]
  split <;> rfl
def norm (m : PM) : PM := ((TX.srtS (ksP m)).filter fun s => decide (pw m s ≠ .r)).map fun s => (s, pw m s)
theorem srtS_nd (l : List Str) : (TX.srtS l).Nodup := (TX.pw_srtS l).imp fun h => TX.ltS_ne h
theorem ks_map (y : Str → Pw) (l : List Str) : ksP (l.map fun s => (s, y s)) = l := by
  unfold ksP
  rw [List.map_map]
  exact List.map_id' l
theorem norm_nm (m : PM) : Nm (norm m) := by
  refine ⟨?_, fun q hq => ?_⟩
  · unfold norm
    rw [ks_map]
    exact (srtS_nd _).filter _
  · obtain ⟨s, hs, rfl⟩ := List.mem_map.mp hq
    have := (List.mem_filter.mp hs).2
    simpa using this
theorem norm_pw (m : PM) (s : Str) : pw (norm m) s = pw m s := by
  have hy : Yes (pw m) (norm m) := ⟨(norm_nm m).nd, fun q hq => by obtain ⟨s, hs, rfl⟩ := List.mem_map.mp hq; rfl⟩
  rw [hy.pw]
  split
  · rfl
  · rename_i hs
    unfold norm at hs
    rw [ks_map, List.mem_filter, TX.mem_srtS] at hs
    by_cases h : pw m s = .r
    · rw [h]
    · exfalso
      apply hs
      refine ⟨?_, by simpa using h⟩
      by_cases z : s ∈ ksP m
      · exact z
      · exact absurd (by unfold pw; rw [lkP_none.mpr z]; rfl) h
theorem nd_len_eq {l1 l2 : List Str} (h1 : l1.Nodup) (h2 : l2.Nodup) (h : ∀ x, x ∈ l1 ↔ x ∈ l2) : l1.length = l2.length := Nat.le_antisymm (nd_le _ _ h1 fun x hx => (h x).mp hx) (nd_le _ _ h2 fun x hx => (h x).mpr hx)
theorem srtS_len {l : List Str} (h : l.Nodup) : (TX.srtS l).length = l.length := nd_len_eq (srtS_nd l) h fun x => TX.mem_srtS
end DL
namespace DL
open PySem L2
def PrV (S : Sto) (p : Dv) (m : PM) : Prop := ∃ dn, insOf S p = some (("Promises" : Str), [(("named" : Str), dn)]) ∧ asD S dn = some (encN m)
theorem kfld_pr {S : Sto} {p dn : Dv} (h : insOf S p = some (("Promises" : Str), [(("named" : Str), dn)])) : kFld "Promises" "named" p S = .ok dn S := by
  unfold kFld
  rw [h]
  simp
theorem kget_pr {S : Sto} {dn : Dv} {m : PM} (h : asD S dn = some (encN m)) (s : Str) : kGet dn (.str s) (.str (pwS .r)) S = .ok (.str (pwS (pw m s))) S := by
  unfold kGet
  rw [h]
  simp only [keyD, valD_enc]
  unfold pw
  cases lkP m s <;> rfl
theorem getitem_ok (f : Nat) {S : Sto} {p : Dv} {m : PM} (h : PrV S p m) (s : Str) : calls (f + 1) .Promises_getitem S [p, .str s] = .ok (.str (pwS (pw m s))) S := by
  obtain ⟨dn, h1, h2⟩ := h
  have h3 := kget_pr h2 s
  rw [show pwS .r = "free" from rfl] at h3
  rw [ev_Promises_getitem, fb_Promises_getitem]
  simp [eGet2, eFld, kfld_pr h1, kGet1, h2, h3]
theorem ksubP_ok (g : DF) {S : Sto} {p : Dv} {m : PM} (h : PrV S p m) (i : Dv) : kSubP "Promises" g p i S = g S [p, i] := by
  obtain ⟨dn, h1, h2⟩ := h
  unfold kSubP
  rw [h1]
  simp
def Good (s : Str) : Prop := ∀ f S p, calls (f + 4) .is_promise S [.str s, .str (pwS p)] = .ok (.bl true) S
theorem items_ok (c : Fn → DF) : ∀ (m : PM) (x0 x1 x2 : Sl), itmOk (gT (gsCons (gN 1) (gsCons (gN 2) gsNil))) (tOr' (tNot' (tTru (eCB isiD (aCons (eVar 1) (aCons (eC (.ty "str")) aNil))))) (tNot' (tTru (eCB isiD (aCons (eVar 2) (aCons (eC (.ty "str")) aNil)))))) (itmL (encN m)) [x0, x1, x2] = true
  | [], x0, x1, x2 => rfl
  | (k, p) :: m, x0, x1, x2 => by
    have ih := items_ok c m x0 (.va (.str k)) (.va (.str (pwS p)))
    have e : itmL (encN ((k, p) :: m)) = .tup [.str k, .str (pwS p)] :: itmL (encN m) := rfl
    rw [e]
    unfold itmOk
    generalize itmL (encN m) = q at *
    simp
    exact ih
theorem dget_enc {S : Sto} {d : Dv} {m : PM} (h : asD S d = some (encN m)) {s : Str} (hs : s ∈ ksP m) : dgetD S d (.str s) = some (.str (pwS (pw m s)), S) := by
  unfold dgetD
  rw [h]
  simp only [Option.bind_some, keyD, valD_enc]
  unfold pw
  cases e : lkP m s with
  | none => exact absurd hs (lkP_none.mp e)
  | some p => simp
theorem srtDK_ok {S : Sto} {d : Dv} {m : PM} (h : asD S d = some (encN m)) (hn : (ksP m).Nodup) (hl : m.length < 64) : srtDK [d] S = .ok ((TX.srtS (ksP m)).map Dv.str) S := by
  have hl' : (ksP m).length < 64 := by simpa [ksP] using hl
  simp only [srtDK, h, Option.bind_some, strKs_enc]
  rw [if_pos ⟨hl', hn⟩]
theorem chk_loop (f : Nat) {S : Sto} {d : Dv} {m : PM} (h : asD S d = some (encN m)) (hg : ∀ q ∈ m, Good q.1) : ∀ (ks : List Str) (x1 x2 : Sl), (∀ k ∈ ks, k ∈ ksP m) → ∃ y, forR (gN 1) (fb_checked_l0 (calls (f + 4))) (ks.map .str) [.va d, x1, x2] S = .nx [.va d, y, x2] S
  | [], x1, x2, _ => ⟨x1, rfl⟩
  | k :: ks, x1, x2, hk => by
    obtain ⟨y, hy⟩ := chk_loop f h hg ks (.va (.str k)) x2 fun x hx => hk x (List.mem_cons_of_mem _ hx)
    refine ⟨y, ?_⟩
    rw [List.map_cons, ← hy]
    refine forR_nx rfl ?_
    have h1 := hk k List.mem_cons_self
    have h2 := dget_enc h h1
    obtain ⟨q, hq, rfl⟩ := List.mem_map.mp h1
    have h3 := hg q hq f S (pw m q.1)
    rw [fb_checked_l0]
    simp [h2, h3]
theorem checked_ok (f : Nat) {S : Sto} {d : Dv} {m : PM} (h : asD S d = some (encN m)) (ht : isiD S [d, .ty "dict"] = some (.bl true, S)) (hn : (ksP m).Nodup) (hl : m.length < 64) (hg : ∀ q ∈ m, Good q.1) :
    calls (f + 5) .checked S [d] = .ok (.hdl S.length) (S ++ [.dct (encN (norm m))]) := by
  have hs := srtDK_ok h hn hl
  have hk : ∀ k ∈ TX.srtS (ksP m), k ∈ ksP m := fun k hk => TX.mem_srtS.mp hk
  have hI : ∀ e x0 x1 x2, e = [x0, x1, x2] → kItems [1, 2] (gT (gsCons (gN 1) (gsCons (gN 2) gsNil))) (tOr' (tNot' (tTru (eCB isiD (aCons (eVar 1) (aCons (eC (.ty "str")) aNil))))) (tNot' (tTru (eCB isiD (aCons (eVar 2) (aCons (eC (.ty "str")) aNil)))))) e S (encN m) = .nx [x0, .no, .no] S := by
    rintro e x0 x1 x2 rfl
    unfold kItems
    have : vwE S [x0, x1, x2] = [vwS S x0, vwS S x1, vwS S x2] := rfl
    rw [this, items_ok (calls f), strVs_enc]
    simp
  obtain ⟨y, hL⟩ := chk_loop f h hg (TX.srtS (ksP m)) .no .no hk
  have hD := kDc_enc (i := 1) (tt := tVal (eBin neE (eBin dgetD (eVar 0) (eVar 1)) (eC (.str "free")))) (tk := eVar 1) (tv := eBin dgetD (eVar 0) (eVar 1)) (vs := [1]) (e := [.va d, y, .no]) (S := S) (pw m) (fun k => decide (pw m k ≠ .r)) (TX.srtS (ksP m)) (by rw [srtS_len hn]; simp only [ksP, List.length_map]; omega) fun k hkm => by
    have h2 := dget_enc h (hk k hkm)
    refine ⟨?_, fun _ => ⟨by simp, by simp [h2]⟩⟩
    simp [h2]
    have : (pwS (pw m k) = ("free" : Str)) ↔ pw m k = .r := ⟨fun e => pwS_inj (b := .r) e, fun e => by rw [e]; rfl⟩
    by_cases z : pw m k = .r
    · simp [z]; rfl
    · have : pwS (pw m k) ≠ ("free" : Str) := fun e => z (this.mp e)
      simp [z, this]
  have hN : encN (ded (pw m) [] ((TX.srtS (ksP m)).filter fun k => decide (pw m k ≠ .r))) = encN (norm m) := by
    rw [ded_nd _ _ _ ((srtS_nd _).filter _) (by simp [ksP])]
    rfl
  rw [hN] at hD
  rw [ev_checked, fb_checked]
  have s1 : sItems 0 [1, 2] (gT (gsCons (gN 1) (gsCons (gN 2) gsNil))) (tOr' (tNot' (tTru (eCB isiD (aCons (eVar 1) (aCons (eC (.ty "str")) aNil))))) (tNot' (tTru (eCB isiD (aCons (eVar 2) (aCons (eC (.ty "str")) aNil)))))) [.va d, .no, .no] S = .nx [.va d, .no, .no] S := by
    unfold sItems
    simp only [List.getElem?_cons_zero, h]
    exact hI _ _ _ _ rfl
  have s2 : sFor (iSq (eFrz (fSrtD (aCons (eVar 0) aNil)))) (gN 1) (fb_checked_l0 (calls (f + 4))) [.va d, .no, .no] S = .nx [.va d, y, .no] S := by
    simp [fSrtD, hs, hL]
  have s3 : sRet (eHdlN (nD (dDc (iSq (eFrz (fSrtD (aCons (eVar 0) aNil)))) (gN 1) (tVal (eBin neE (eBin dgetD (eVar 0) (eVar 1)) (eC (.str "free")))) (eVar 1) (eBin dgetD (eVar 0) (eVar 1)) [1]))) [.va d, y, .no] S = .rt (.hdl S.length) (S ++ [.dct (encN (norm m))]) := by
    simp [dDc, fSrtD, hs, hD]
  have s0 : sIf (tNot' (tTru (eCB isiD (aCons (eVar 0) (aCons (eC (.ty "dict")) aNil))))) sNever sNil [.va d, .no, .no] S = .nx [.va d, .no, .no] S := by
    simp [ht]
  rw [ev_seq, s0, kSeq_nx, ev_seq, s1, kSeq_nx, ev_seq, s2, kSeq_nx, s3, kRun_rt]
/-- a Promises just made -/
def prO (n : Nat) (m : PM) : Sto := [.ins "Promises" [("named", .hdl (n + 1))], .dct (encN m)]
theorem make_ok (f : Nat) {S : Sto} {d : Dv} {m : PM} (hd : ∀ T, asD (S ++ T) d = some (encN m)) (ht : ∀ T, isiD (S ++ T) [d, .ty "dict"] = some (.bl true, S ++ T)) (hnn : ∀ T, pu2 (isD false) (S ++ T) d .non = some (.bl false, S ++ T)) (hn : (ksP m).Nodup) (hl : m.length < 64) (hg : ∀ q ∈ m, Good q.1) :
    kMkH "Promises" (calls (f + 6) .Promises_init) [d] S = .ok (.hdl S.length) (S ++ prO S.length (norm m)) := by
  have h1 := checked_ok f (hd [.ins "Promises" []]) (ht _) hn hl hg
  have h2 := hnn [.ins "Promises" []]
  have h3 : calls (f + 6) .Promises_init (S ++ [.ins "Promises" []]) [.hdl S.length, d] = .ok .non (S ++ prO S.length (norm m)) := by
    rw [ev_Promises_init, fb_Promises_init]
    have e1 : (eCall (calls (f + 5) .checked) (aCons (eIf (tVal (eBin (pu2 (isD false)) (eVar 1) (eC .non))) (eFrzD dNil) (eVar 1)) aNil)) [.va (.hdl S.length), .va d] (S ++ [.ins "Promises" []]) = .ok (.hdl (S.length + 1)) (S ++ [.ins "Promises" []] ++ [.dct (encN (norm m))]) := by
      simp [h2, h1]
    have e2 : setF "Promises" "named" (S ++ [.ins "Promises" []] ++ [.dct (encN (norm m))]) (.hdl S.length) (.hdl (S.length + 1)) = some (S ++ prO S.length (norm m)) := by
      simp [setF, putFD, prO]
    unfold sFldH sBind
    rw [e1]
    simp only [ev_var, List.getElem?_cons_zero, kVar_va, e2, kRun_nx]
  unfold kMkH
  rw [h3]
  rfl
/-- a handle of the store, before anything more -/
def PrH (S : Sto) (k : Nat) (m : PM) : Prop := S[k]? = some (.ins "Promises" [("named", .hdl (k + 1))]) ∧ S[k + 1]? = some (.dct (encN m))
theorem PrH.v {S : Sto} {k : Nat} {m : PM} (h : PrH S k m) : PrV S (.hdl k) m := ⟨.hdl (k + 1), by simp [insOf, h.1], by simp [asD, h.2]⟩
theorem prH_new (S : Sto) (m : PM) : PrH (S ++ prO S.length m) S.length m := by
  constructor
  · simp [prO]
  · simp [prO, List.getElem?_append]
theorem PrH.app {S : Sto} {k : Nat} {m : PM} (h : PrH S k m) (T : Sto) : PrH (S ++ T) k m := by
  obtain ⟨h1, h2⟩ := h
  have a1 := (List.getElem?_eq_some_iff.mp h1).1
  have a2 := (List.getElem?_eq_some_iff.mp h2).1
  exact ⟨by rw [List.getElem?_append_left a1]; exact h1, by rw [List.getElem?_append_left a2]; exact h2⟩
theorem make_dic (f : Nat) (S : Sto) (m : PM) (hn : (ksP m).Nodup) (hl : m.length < 64) (hg : ∀ q ∈ m, Good q.1) : kMkH "Promises" (calls (f + 6) .Promises_init) [.dic (encN m)] S = .ok (.hdl S.length) (S ++ prO S.length (norm m)) :=
  make_ok f (fun T => rfl) (fun T => by simp) (fun T => by simp) hn hl hg
theorem keysK_ok {S : Sto} {d : Dv} {m : PM} (h : asD S d = some (encN m)) : keysK [d] S = .ok ((ksP m).map Dv.str) S := by
  simp only [keysK, h, encN, ksP, List.map_map]
  rfl
structure Un (U : List Str) : Prop where
  good : ∀ s ∈ U, Good s
  le : U.length < 32
structure PrG (U : List Str) (m : PM) : Prop where
  nm : Nm m
  sub : ∀ s ∈ ksP m, s ∈ U
theorem PrG.le {U : List Str} {m : PM} (hU : Un U) (h : PrG U m) : m.length < 32 := by
  have := nd_le _ _ h.nm.nd h.sub
  have := hU.le
  simp only [ksP, List.length_map] at *
  omega
theorem sub_le {U : List Str} {m : PM} (hU : Un U) (hn : (ksP m).Nodup) (hs : ∀ s ∈ ksP m, s ∈ U) : m.length < 32 := by
  have := nd_le _ _ hn hs
  have := hU.le
  simp only [ksP, List.length_map] at *
  omega
theorem sub_good {U : List Str} {m : PM} (hU : Un U) (hs : ∀ s ∈ ksP m, s ∈ U) : ∀ q ∈ m, Good q.1 := fun q hq => hU.good _ (hs _ (List.mem_map.mpr ⟨q, hq, rfl⟩))
theorem norm_ks {m : PM} {s : Str} (h : s ∈ ksP (norm m)) : s ∈ ksP m := by
  unfold norm at h
  rw [ks_map] at h
  exact TX.mem_srtS.mp (List.mem_filter.mp h).1
theorem norm_g {U : List Str} {m : PM} (hs : ∀ s ∈ ksP m, s ∈ U) : PrG U (norm m) := ⟨norm_nm m, fun s h => hs s (norm_ks h)⟩
theorem make_u {U : List Str} (hU : Un U) (f : Nat) (S : Sto) (m : PM) (hn : (ksP m).Nodup) (hs : ∀ s ∈ ksP m, s ∈ U) : kMkH "Promises" (calls (f + 6) .Promises_init) [.dic (encN m)] S = .ok (.hdl S.length) (S ++ prO S.length (norm m)) :=
  make_dic f S m hn (by have := sub_le hU hn hs; omega) (sub_good hU hs)
theorem kmeth_pr (g : DF) (mm : Str) (hm : (mm == ("named" : Str)) = false) {S : Sto} {p : Dv} {m : PM} (h : PrV S p m) (fa : DA) (e : Env) : kMeth "Promises" mm [] g fa e p S = bnd (fa e S) fun as S2 => g S2 (p :: (as ++ [])) := by
  obtain ⟨dn, h1, h2⟩ := h
  unfold kMeth
  rw [h1]
  simp [List.lookup_cons, hm]
theorem eq_ok (f : Nat) {S : Sto} {p q : Dv} {m n : PM} (hp : PrV S p m) (hq : PrV S q n) (hm : Nm m) (hn : Nm n) : calls (f + 1) .Promises_eq S [p, q] = .ok (.bl (hitP m n)) S := by
  obtain ⟨dp, p1, p2⟩ := hp
  obtain ⟨dq, q1, q2⟩ := hq
  rw [ev_Promises_eq, fb_Promises_eq]
  have h1 : isoD "Promises" su_Promises S [q, .glo "Promises"] = some (.bl true, S) := by
    simp only [isoD, q1, if_pos]
    rfl
  have h2 : eqDs false S dp dq = some (.bl (hitP m n), S) := by
    unfold eqDs hitP
    rw [p2, q2, Option.bind_some, Option.bind_some, strVs_enc, strVs_enc, Option.bind_some, Option.map_some, hit_all]
    simp
  simp [h1, eFld, kfld_pr p1, kfld_pr q1, h2]
theorem keqO_ok (neg : Bool) (f : Nat) {S : Sto} {p q : Dv} {m n : PM} (hp : PrV S p m) (hq : PrV S q n) (hm : Nm m) (hn : Nm n) : kEqO neg "Promises" (calls (f + 1) .Promises_eq) p q S = .ok (.bl (if neg then !hitP m n else hitP m n)) S := by
  have h := eq_ok f hp hq hm hn
  obtain ⟨dp, p1, p2⟩ := hp
  obtain ⟨dq, q1, q2⟩ := hq
  unfold kEqO
  rw [p1]
  have : rgtOk S "Promises" q = true := by
    unfold rgtOk
    rw [q1]
    simp
  simp only [this, and_self, if_pos, h]
  rfl
theorem powers_ok (f : Nat) {S : Sto} {p : Dv} {m : PM} (hp : PrV S p m) (hm : Nm m) (hl : m.length < 64) : calls (f + 1) .Promises_powers S [p] = .ok (.dic (encN (norm m))) S := by
  obtain ⟨dp, p1, p2⟩ := hp
  rw [ev_Promises_powers, fb_Promises_powers]
  have hs := srtDK_ok p2 hm.nd hl
  have hD := kDc_enc (i := 1) (tt := tTrue) (tk := eVar 1) (tv := eBin dgetD (eFld "Promises" "named" (eVar 0)) (eVar 1)) (vs := [1]) (e := [.va p, .no]) (S := S) (pw m) (fun _ => true) (TX.srtS (ksP m)) (by rw [srtS_len hm.nd]; simp only [ksP, List.length_map]; omega) fun k hkm => by
    have h2 := dget_enc p2 (TX.mem_srtS.mp hkm)
    refine ⟨rfl, fun _ => ⟨by simp, by simp [eFld, kfld_pr p1, h2]⟩⟩
  rw [List.filter_eq_self.mpr (by simp)] at hD
  have hN : encN (ded (pw m) [] (TX.srtS (ksP m))) = encN (norm m) := by
    rw [ded_nd _ _ _ (srtS_nd _) (by simp [ksP])]
    unfold norm
    rw [List.filter_eq_self.mpr fun s hs => by
      have := hm.mem.mp (TX.mem_srtS.mp hs)
      simpa using this]
    rfl
  rw [hN] at hD
  simp [dDc, fSrtD, eFld, kfld_pr p1, hs, hD]
def leP (ks : List Str) (m n : PM) : Bool := ks.all fun s => (pw m s).le (pw n s)
theorem atm_loop (f : Nat) {S : Sto} {p q : Dv} {m n : PM} (hp : PrV S p m) (hq : PrV S q n) : ∀ (ks : List Str) (x : Sl), ∃ y, forR (gN 2) (fb_Promises_at_most_l0 (calls (f + 1))) (ks.map .str) [.va p, .va q, x] S = if leP ks m n then .nx [.va p, .va q, y] S else .rt (.bl false) S
  | [], x => ⟨x, rfl⟩
  | k :: ks, x => by
    obtain ⟨y, hy⟩ := atm_loop f hp hq ks (.va (.str k))
    have g1 := getitem_ok f hp k
    have g2 := getitem_ok f hq k
    have g3 := atm_ok f S (pw m k) (pw n k)
    have hb : fb_Promises_at_most_l0 (calls (f + 1)) [.va p, .va q, .va (.str k)] S = if (pw m k).le (pw n k) then .nx [.va p, .va q, .va (.str k)] S else .rt (.bl false) S := by
      rw [fb_Promises_at_most_l0]
      cases h : (pw m k).le (pw n k) <;> simp [eSubO, kSub1, ksubP_ok _ hp, ksubP_ok _ hq, g1, g2, g3, h]
    refine ⟨y, ?_⟩
    rw [List.map_cons]
    cases h : (pw m k).le (pw n k) with
    | true =>
      rw [h, if_pos rfl] at hb
      rw [forR_nx (e1 := [.va p, .va q, .va (.str k)]) rfl hb, hy]
      simp [leP, h]
    | false =>
      rw [h] at hb
      rw [forR_rt (e1 := [.va p, .va q, .va (.str k)]) rfl hb]
      simp [leP, h]
def leA (m n : PM) : Bool := leP (ksP m ++ ksP n) m n
theorem leP_same {ks ks' : List Str} {m n : PM} (h : ∀ s, s ∈ ks ↔ s ∈ ks') : leP ks m n = leP ks' m n := by
  rw [Bool.eq_iff_iff]
  unfold leP
  rw [List.all_eq_true, List.all_eq_true]
  exact ⟨fun z s hs => z s ((h s).mpr hs), fun z s hs => z s ((h s).mp hs)⟩
theorem strsD_strs : ∀ l : List Str, strsD (l.map .str) = some l
  | [] => rfl
  | x :: l => by
    have := strsD_strs l
    simp only [List.map_cons, strsD, this]
    rfl
theorem atmost_ok {U : List Str} (hU : Un U) (f : Nat) {S : Sto} {p q : Dv} {m n : PM} (hp : PrV S p m) (hq : PrV S q n) (hm : PrG U m) (hn : PrG U n) : calls (f + 2) .Promises_at_most S [p, q] = .ok (.bl (leA m n)) S := by
  obtain ⟨dp, p1, p2⟩ := id hp
  obtain ⟨dq, q1, q2⟩ := id hq
  have lm := hm.le hU
  have ln := hn.le hU
  have hw := powers_ok f hq hn.nm (by omega)
  have k1 := keysK_ok p2
  have hks : (ksP (norm n)).length = n.length := by
    have h1 : ∀ s, s ∈ ksP (norm n) ↔ s ∈ ksP n := fun s => by rw [(norm_nm n).mem, norm_pw, hn.nm.mem]
    have := nd_len_eq (norm_nm n).nd hn.nm.nd h1
    rw [this]; simp [ksP]
  have k2 : keysK [.dic (encN (norm n))] S = .ok ((ksP (norm n)).map Dv.str) S := keysK_ok rfl
  let ks : List Str := ksP m ++ ksP (norm n)
  have hl : ks.length < 64 := by
    simp only [ks, List.length_append, hks]
    simp only [ksP, List.length_map]
    omega
  have hadd : addD S (.lst ((ksP m).map Dv.str)) (.lst ((ksP (norm n)).map Dv.str)) = some (.lst (ks.map Dv.str), S) := by
    rw [op_add_l _ _ _ (by rw [List.length_map, List.length_map]; refine line_le _ ?_; have : ks.length = (ksP m).length + (ksP (norm n)).length := List.length_append; omega), ← List.map_append]
  have hset : srtSetK [.lst (ks.map Dv.str)] S = .ok ((TX.srtS ks).map Dv.str) S := by
    simp only [srtSetK, asL, Option.bind_some, strsD_strs]
    rw [if_pos (by omega)]
  obtain ⟨y, hy⟩ := atm_loop f hp hq (TX.srtS ks) .no
  have hsame : leP (TX.srtS ks) m n = leA m n := leP_same fun s => by
    rw [TX.mem_srtS]
    simp only [ks, List.mem_append]
    have : s ∈ ksP (norm n) ↔ s ∈ ksP n := by rw [(norm_nm n).mem, norm_pw, hn.nm.mem]
    rw [this]
  rw [hsame] at hy
  have hmeth : kMeth "Promises" "powers" [] (calls (f + 1) .Promises_powers) aNil [.va p, .va q, .no] q S = .ok (.dic (encN (norm n))) S := by
    rw [kmeth_pr _ "powers" (by decide +kernel) ⟨dq, q1, q2⟩]
    simpa using hw
  rw [ev_Promises_at_most, fb_Promises_at_most]
  have s1 : sFor (iSq (eFrz (fSrtSet (aCons (eBin addD (eFrz (fKeys (aCons (eFld "Promises" "named" (eVar 0)) aNil))) (eFrz (fKeys (aCons (eMeth "Promises" "powers" [] (calls (f + 1) .Promises_powers) (eVar 1) aNil) aNil)))) aNil)))) (gN 2) (fb_Promises_at_most_l0 (calls (f + 1))) [.va p, .va q, .no] S = if leA m n then .nx [.va p, .va q, y] S else .rt (.bl false) S := by
    simp [fKeys, fSrtSet, eFld, eMeth, kfld_pr p1, k1, hmeth, k2, hadd, hset, hy]
  rw [ev_seq, s1]
  cases leA m n <;> simp
end DL
namespace DL
open PySem L2
def setP (m : PM) (s : Str) (p : Pw) : PM := (m.filter fun q => decide (q.1 ≠ s)) ++ if p = .r then [] else [(s, p)]
theorem flt_ks (m : PM) (s : Str) : ksP (m.filter fun q => decide (q.1 ≠ s)) = (ksP m).filter fun k => decide (k ≠ s) := by
  unfold ksP
  rw [List.filter_map]
  rfl
theorem flt_self {m : PM} {s : Str} (h : s ∉ ksP m) : (m.filter fun q => decide (q.1 ≠ s)) = m := List.filter_eq_self.mpr fun q hq => by
  have : q.1 ≠ s := fun e => h (List.mem_map.mpr ⟨q, hq, e⟩)
  simpa using this
theorem lk_flt : ∀ (m : PM) (s z : Str), lkP (m.filter fun q => decide (q.1 ≠ s)) z = if z = s then none else lkP m z
  | [], s, z => by simp [lkP]
  | (k, p) :: m, s, z => by
    have ih := lk_flt m s z
    by_cases h : k = s
    · subst h
      rw [List.filter_cons_of_neg (by simp), ih]
      by_cases hz : z = k
      · rw [if_pos hz, if_pos hz]
      · rw [if_neg hz, if_neg hz, lkP_cons, if_neg (Ne.symm hz)]
    · rw [List.filter_cons_of_pos (by simpa using h), lkP_cons, lkP_cons, ih]
      by_cases hz : z = s
      · subst hz; rw [if_neg h, if_pos rfl]; simp
      · rw [if_neg hz, if_neg hz]
theorem lk_app : ∀ (m n : PM) (z : Str), lkP (m ++ n) z = match lkP m z with | some p => some p | none => lkP n z
  | [], n, z => rfl
  | (k, p) :: m, n, z => by
    have ih := lk_app m n z
    rw [List.cons_append, lkP_cons, lkP_cons]
    by_cases h : k = z
    · rw [if_pos h, if_pos h]
    · rw [if_neg h, if_neg h, ih]
theorem setP_pw (m : PM) (s : Str) (p : Pw) (z : Str) : pw (setP m s p) z = if z = s then p else pw m z := by
  unfold pw setP
  rw [lk_app, lk_flt]
  by_cases h : z = s
  · subst h
    simp only [if_pos]
    by_cases hp : p = .r
    · rw [if_pos hp, hp]; rfl
    · rw [if_neg hp]; simp [lkP]
  · rw [if_neg h, if_neg h]
    cases lkP m z with
    | some w => rfl
    | none =>
      by_cases hp : p = .r
      · rw [if_pos hp]; rfl
      · rw [if_neg hp]; simp [lkP, Ne.symm h]
theorem setP_nm {m : PM} (h : Nm m) (s : Str) (p : Pw) : Nm (setP m s p) := by
  unfold setP
  refine ⟨?_, fun q hq => ?_⟩
  · have e : ksP ((m.filter fun q => decide (q.1 ≠ s)) ++ if p = .r then [] else [(s, p)]) = ((ksP m).filter fun k => decide (k ≠ s)) ++ ksP (if p = .r then [] else [(s, p)]) := by
      rw [← flt_ks]; unfold ksP; rw [List.map_append]
    rw [e, List.nodup_append]
    refine ⟨h.nd.filter _, ?_, fun a ha b hb => ?_⟩
    · split <;> simp [ksP]
    · split at hb
      · simp [ksP] at hb
      · simp [ksP] at hb
        subst hb
        have := (List.mem_filter.mp ha).2
        simpa using this
  · rcases List.mem_append.mp hq with hq | hq
    · exact h.nf q (List.mem_filter.mp hq).1
    · split at hq
      · simp at hq
      · rename_i hp; simp at hq; subst hq; exact hp
theorem setP_g {U : List Str} {m : PM} (h : PrG U m) {s : Str} (hs : s ∈ U) (p : Pw) : PrG U (setP m s p) := by
  refine ⟨setP_nm h.nm s p, fun z hz => ?_⟩
  rw [(setP_nm h.nm s p).mem, setP_pw] at hz
  by_cases e : z = s
  · rw [e]; exact hs
  · rw [if_neg e] at hz
    exact h.sub z (h.nm.mem.mpr hz)
theorem setitem_ok (f : Nat) {S : Sto} {k : Nat} {m : PM} (h : PrH S k m) (hl : m.length < 1000) {s : Str} (hg : Good s) (p : Pw) : calls (f + 5) .Promises_setitem S [.hdl k, .str s, .str (pwS p)] = .ok .non (S.set (k + 1) (.dct (encN (setP m s p)))) := by
  have h1 := hg f S p
  have hf : kFld "Promises" "named" (.hdl k) S = .ok (.hdl (k + 1)) S := kfld_pr (by simp [insOf, h.1])
  have hk1 : k + 1 < S.length := (List.getElem?_eq_some_iff.mp h.2).1
  have hpop : ∃ d, kPop (.hdl (k + 1)) (.str s) .non S = .ok d (S.set (k + 1) (.dct (encN (m.filter fun q => decide (q.1 ≠ s))))) := by
    simp only [kPop, h.2, keyD, valD_enc]
    cases e : lkP m s with
    | some w => exact ⟨.str (pwS w), by simp [dropD_enc]⟩
    | none =>
      refine ⟨.non, ?_⟩
      rw [flt_self (lkP_none.mp e)]
      have : S.set (k + 1) (.dct (encN m)) = S := by
        have := (List.getElem?_eq_some_iff.mp h.2).2
        rw [← this, List.set_getElem_self]
      rw [this]
      rfl
  obtain ⟨d, hpop⟩ := hpop
  have hp1 : kPop1 (eVar 1) (eC .non) [.va (.hdl k), .va (.str s), .va (.str (pwS p))] (.hdl (k + 1)) S = .ok d (S.set (k + 1) (.dct (encN (m.filter fun q => decide (q.1 ≠ s))))) := by
    unfold kPop1
    simp [asD, h.2, hpop]
  have s1 : sIf (tNot' (tTru (eCall (calls (f + 4) .is_promise) (aCons (eVar 1) (aCons (eVar 2) aNil))))) sNever sNil [.va (.hdl k), .va (.str s), .va (.str (pwS p))] S = .nx [.va (.hdl k), .va (.str s), .va (.str (pwS p))] S := by
    simp [h1]
  have s2 : sExpr (ePop2 (eFld "Promises" "named" (eVar 0)) (eVar 1) (eC .non)) [.va (.hdl k), .va (.str s), .va (.str (pwS p))] S = .nx [.va (.hdl k), .va (.str s), .va (.str (pwS p))] (S.set (k + 1) (.dct (encN (m.filter fun q => decide (q.1 ≠ s))))) := by
    simp [ePop2, eFld, hf, hp1]
  have g0 : (S.set (k + 1) (.dct (encN (m.filter fun q => decide (q.1 ≠ s)))))[k]? = some (.ins "Promises" [("named", .hdl (k + 1))]) := by
    rw [List.getElem?_set_ne (by omega)]; exact h.1
  have g1 : (S.set (k + 1) (.dct (encN (m.filter fun q => decide (q.1 ≠ s)))))[k + 1]? = some (.dct (encN (m.filter fun q => decide (q.1 ≠ s)))) := by
    rw [List.getElem?_set_self hk1]
  have hf2 : kFld "Promises" "named" (.hdl k) (S.set (k + 1) (.dct (encN (m.filter fun q => decide (q.1 ≠ s))))) = .ok (.hdl (k + 1)) (S.set (k + 1) (.dct (encN (m.filter fun q => decide (q.1 ≠ s))))) := kfld_pr (by simp only [insOf, g0])
  have hput : s ∉ ksP (m.filter fun q => decide (q.1 ≠ s)) := by rw [flt_ks]; simp
  rw [ev_Promises_setitem, fb_Promises_setitem, ev_seq, s1, kSeq_nx, ev_seq, s2, kSeq_nx]
  by_cases hp : p = .r
  · subst hp
    have e : setP m s .r = m.filter fun q => decide (q.1 ≠ s) := by unfold setP; simp
    rw [e]
    simp
    rfl
  · have hne : (pwS p = ("free" : Str)) ↔ False := ⟨fun z => hp (pwS_inj (b := .r) z), False.elim⟩
    have e : setP m s p = (m.filter fun q => decide (q.1 ≠ s)) ++ [(s, p)] := by unfold setP; rw [if_neg hp]
    have hd : dputH (S.set (k + 1) (.dct (encN (m.filter fun q => decide (q.1 ≠ s))))) (.hdl (k + 1)) (.str s) (.str (pwS p)) = some (S.set (k + 1) (.dct (encN (setP m s p)))) := by
      have hlt : (encN (m.filter fun q => decide (q.1 ≠ s))).length < sizeLine := by
        rw [encN_len]
        exact line_lt _ (by have := List.length_filter_le (fun q => decide (q.1 ≠ s)) m; omega)
      unfold dputH
      simp only [g1, keyD, Option.bind_some, hlt, if_pos]
      rw [putD_enc_new hput, ← e]
      simp
    have s3 : sDPutH (eFld "Promises" "named" (eVar 0)) (eVar 1) (eVar 2) [.va (.hdl k), .va (.str s), .va (.str (pwS p))] (S.set (k + 1) (.dct (encN (m.filter fun q => decide (q.1 ≠ s))))) = .nx [.va (.hdl k), .va (.str s), .va (.str (pwS p))] (S.set (k + 1) (.dct (encN (setP m s p)))) := by
      generalize S.set (k + 1) (.dct (encN (m.filter fun q => decide (q.1 ≠ s)))) = S1 at hf2 hd
      unfold sDPutH sBind eFld
      simp [hf2, hd]
    generalize S.set (k + 1) (.dct (encN (m.filter fun q => decide (q.1 ≠ s)))) = S1 at s3
    simp [hne, s3]
def Ext (S T : Sto) : Prop := ∃ W, T = S ++ W
theorem Ext.refl (S : Sto) : Ext S S := ⟨[], by simp⟩
theorem Ext.trans {S T R : Sto} (a : Ext S T) (b : Ext T R) : Ext S R := by
  obtain ⟨W, rfl⟩ := a
  obtain ⟨V, rfl⟩ := b
  exact ⟨W ++ V, by simp⟩
theorem PrH.ext {S T : Sto} {k : Nat} {m : PM} (h : PrH S k m) (e : Ext S T) : PrH T k m := by
  obtain ⟨W, rfl⟩ := e
  exact h.app W
theorem Ext.get {S T : Sto} (e : Ext S T) {k : Nat} {o : Ob} (h : S[k]? = some o) : T[k]? = some o := by
  obtain ⟨W, rfl⟩ := e
  rw [List.getElem?_append_left (List.getElem?_eq_some_iff.mp h).1]; exact h
theorem Ext.le {S T : Sto} (e : Ext S T) : S.length ≤ T.length := by
  obtain ⟨W, rfl⟩ := e
  simp
theorem PrH.lt {S : Sto} {k : Nat} {m : PM} (h : PrH S k m) : k + 1 < S.length := (List.getElem?_eq_some_iff.mp h.2).1
theorem set_ex (f : Nat) {S : Sto} {k : Nat} {m : PM} (h : PrH S k m) (hl : m.length < 1000) {s : Str} (hg : Good s) (p : Pw) (e : Env) : ∃ T, kPutO "Promises" (calls (f + 5) .Promises_setitem) (.hdl k) (.str (pwS p)) e (.str s) S = .nx e T ∧ PrH T k (setP m s p) ∧ (∀ j o, S[j]? = some o → j ≠ k + 1 → T[j]? = some o) ∧ T.length = S.length := by
  have h1 := setitem_ok f h hl hg p
  have h2 : insOf S (.hdl k) = some (("Promises" : Str), [(("named" : Str), Dv.hdl (k + 1))]) := by simp [insOf, h.1]
  refine ⟨S.set (k + 1) (.dct (encN (setP m s p))), ?_, ⟨?_, ?_⟩, fun j o hj hne => ?_, by simp⟩
  · unfold kPutO
    rw [h2]
    simp [h1]
  · rw [List.getElem?_set_ne (by omega)]; exact h.1
  · rw [List.getElem?_set_self h.lt]
  · rw [List.getElem?_set_ne (Ne.symm hne)]; exact hj
theorem PrH.other {S T : Sto} {k j : Nat} {m n : PM} (h : PrH S k m) (hj : PrH S j n) (hne : j ≠ k) (ht : ∀ i o, S[i]? = some o → i ≠ k + 1 → T[i]? = some o) : PrH T j n := by
  refine ⟨ht _ _ hj.1 fun e => ?_, ht _ _ hj.2 (by omega)⟩
  have := hj.1
  rw [e, h.2] at this
  cases this
end DL
namespace DL
open PySem L2
def bagOb (c0 c1 c2 : Int) (cells : List Int) : Ob := .lst [.int c0, .int c1, .int c2, .lst (cells.map Dv.int)]
def BagOk (o : Ob) : Prop := ∃ (c0 c1 c2 : Int) (cells : List Int), o = bagOb c0 c1 c2 cells ∧ 0 ≤ c0 ∧ 0 ≤ c1 ∧ c1 < 2147483647 ∧ 0 ≤ c2 ∧ ∀ c ∈ cells, 0 ≤ c
def BagAt (S : Sto) (b : Nat) : Prop := ∃ o, S[b]? = some o ∧ BagOk o
theorem take_ok (m : Nat) {S : Sto} {b : Nat} {n : Int} (hB : BagAt S b) (hn : 0 < n) (hn2 : n < 1073741824) : ∃ r o, calls (m + 1) .l_take S [.hdl b, .int n] = .ok (.int r) (S.set b o) ∧ 0 ≤ r ∧ r < n ∧ BagOk o := by
  obtain ⟨o, h, c0, c1, c2, cells, rfl, k0, k1, k2, k3, k4⟩ := hB
  have hset : ∀ x : Ob, (S.set b x)[b]? = some x := fun x => by rw [List.getElem?_set, if_pos rfl, if_pos (List.getElem?_eq_some_iff.mp h).1]
  have nl : (0 : Int) ≤ c2 + 1 := by omega
  have hm : ∀ x : Int, 0 ≤ x % n ∧ x % n < n := fun x => ⟨Int.emod_nonneg _ (by omega), Int.emod_lt_of_pos _ hn⟩
  have hp : ∀ x : Int, 0 ≤ x % 2147483647 ∧ x % 2147483647 < 2147483647 := fun x => ⟨Int.emod_nonneg _ (by decide), Int.emod_lt_of_pos _ (by decide)⟩
  have hd : ∀ x : Int, 0 ≤ x → 0 ≤ x / n := fun x hx => Int.ediv_nonneg hx (by omega)
  unfold bagOb at h
  by_cases h0 : c0 = 0
  · subst h0
    have mul1 : -(2 ^ 64) < c1 ∧ c1 < 2 ^ 64 := by omega
    have cell : ∃ c : Int, 0 ≤ c ∧ ((c2 < (cells.length : Int) ∧ atI (cells.map Dv.int) c2 = some (.int c)) ∨ (¬ c2 < (cells.length : Int) ∧ c = 0)) := by
      by_cases hl : c2 < (cells.length : Int)
      · have hl2 : c2.toNat < cells.length := by omega
        exact ⟨cells[c2.toNat], k4 _ (List.getElem_mem hl2), .inl ⟨hl, by unfold atI; rw [List.length_map, ixN_ok k3 hl]; simp [hl2]⟩⟩
      · exact ⟨0, Int.le_refl _, .inr ⟨hl, rfl⟩⟩
    obtain ⟨c, hc, hcell⟩ := cell
    by_cases hbig : 1000000000000000000 ≤ c
    · have c0p : (0 : Int) < c := by omega
      refine ⟨c % n, bagOb (c / n) ((c1 * 48271 + c % 2147483647 + 7919 * (c2 + 1)) % 2147483647) (c2 + 1) cells, ?_, (hm c).1, (hm c).2, _, _, _, _, rfl, hd c hc, (hp _).1, (hp _).2, nl, k4⟩
      unfold bagOb
      rcases hcell with ⟨hl, e⟩ | ⟨hl, e⟩
      · simp [ev_l_take, fb_l_take, op_mul_i, op_mod_i, op_fdiv_i, hn, hn2, ixN_ok, h, hl, hset, hbig, k3, c0p, mul1, e]
      · subst e
        omega
    · have key : ∃ c1' : Int, 0 ≤ c1' ∧ c1' < 2147483647 ∧ calls (m + 1) .l_take S [.hdl b, .int n] = .ok (.int (((((c1' + 1) * 39373 % 1000000007) * ((c1' + 1) * 39373 % 1000000007) % 998244353 * 30011) % 998244353) / 7 % n)) (S.set b (bagOb 0 c1' (c2 + 1) cells)) := by
        refine ⟨(c1 * 48271 + c % 2147483647 + 7919 * (c2 + 1)) % 2147483647, (hp _).1, (hp _).2, ?_⟩
        obtain ⟨q1, q2⟩ := hp (c1 * 48271 + c % 2147483647 + 7919 * (c2 + 1))
        have nbig : ¬ (1000000000000000000 ≤ c) := hbig
        rcases hcell with ⟨hl, e⟩ | ⟨hl, e⟩
        · unfold bagOb
          generalize hw : (c1 * 48271 + c % 2147483647 + 7919 * (c2 + 1)) % 2147483647 = w1 at *
          have m1 : -(2 ^ 64) < w1 + 1 ∧ w1 + 1 < 2 ^ 64 := by omega
          have m2 : -(2 ^ 64) < (w1 + 1) * 39373 % 1000000007 ∧ (w1 + 1) * 39373 % 1000000007 < 2 ^ 64 := by omega
          have m3 := fun S' : Sto => op_mul_i S' _ ((w1 + 1) * 39373 % 1000000007) (.inl m2)
          simp [ev_l_take, fb_l_take, op_mul_i, op_mod_i, op_fdiv_i, hn, hn2, ixN_ok, h, hl, hset, nbig, k3, mul1, e, hw, m1, m3]
        · subst e
          unfold bagOb
          generalize hw : (c1 * 48271 + (0 : Int) % 2147483647 + 7919 * (c2 + 1)) % 2147483647 = w1 at *
          have m1 : -(2 ^ 64) < w1 + 1 ∧ w1 + 1 < 2 ^ 64 := by omega
          have m2 : -(2 ^ 64) < (w1 + 1) * 39373 % 1000000007 ∧ (w1 + 1) * 39373 % 1000000007 < 2 ^ 64 := by omega
          have m3 := fun S' : Sto => op_mul_i S' _ ((w1 + 1) * 39373 % 1000000007) (.inl m2)
          have hw2 : (c1 * 48271 + 7919 * (c2 + 1)) % 2147483647 = w1 := by rw [← hw]; simp
          simp [ev_l_take, fb_l_take, op_mul_i, op_mod_i, op_fdiv_i, hn, hn2, ixN_ok, h, hl, hset, k3, mul1, hw2, m1, m3]
      obtain ⟨c1', w1, w2, e⟩ := key
      exact ⟨_, _, e, (hm _).1, (hm _).2, _, _, _, _, rfl, Int.le_refl _, w1, w2, nl, k4⟩
  · have h1 : 0 < c0 := by omega
    refine ⟨c0 % n, bagOb (c0 / n) c1 c2 cells, ?_, (hm c0).1, (hm c0).2, _, _, _, _, rfl, hd c0 k0, k1, k2, k3, k4⟩
    unfold bagOb
    simp [ev_l_take, fb_l_take, op_mul_i, op_mod_i, op_fdiv_i, hn, hn2, ixN_ok, h, h0, h1]
theorem cutG_map {α β : Type} (f : α → β) (l : List α) (lo hi : Option Int) : cutG (l.map f) lo hi = (cutG l lo hi).map f := by
  unfold cutG
  rw [List.length_map, List.map_take, List.map_drop]
theorem cutG_len {α : Type} (l : List α) (lo hi : Option Int) : (cutG l lo hi).length ≤ l.length := by
  unfold cutG
  rw [List.length_take, List.length_drop]
  omega
theorem lc_abs (x : Sl) (S : Sto) : ∀ ms : List Int, lcR (gN 1) tTrue (eCB absD (aCons (eVar 1) aNil)) [x, .no] (ms.map Dv.int) S = .ok ((ms.map fun m => if m < 0 then -m else m).map Dv.int) S
  | [] => rfl
  | m :: r => by
    simp [lcR, tTrue, lc_abs x S r]
theorem bag_ok (m : Nat) (S : Sto) (ns : List Int) (h : ns.length ≤ 63) : ∃ o, calls (m + 1) .l_bag S [.rol (ns.map .int)] = .ok (.hdl S.length) (S ++ [o]) ∧ BagOk o := by
  have hl : (List.map Dv.int ((cutG ns none (some 63)).map fun m => if m < 0 then -m else m)).length ≤ sizeLine := by
    rw [List.length_map, List.length_map]
    exact line_le _ (by have := cutG_len ns none (some 63); omega)
  refine ⟨bagOb 0 1234567891 0 ((cutG ns none (some 63)).map fun m => if m < 0 then -m else m), ?_, 0, 1234567891, 0, _, rfl, by decide, by decide, by decide, by decide, fun c hc => ?_⟩
  · unfold bagOb
    rw [List.map_map] at hl
    simp [ev_l_bag, fb_l_bag, cutG_map, lc_abs, kLcEnd_ok _ _ hl]
  · obtain ⟨m, _, rfl⟩ := List.mem_map.mp hc
    split <;> omega
theorem bag_at {o : Ob} (h : BagOk o) : BagAt [o] 0 := ⟨o, rfl, h⟩
theorem BagAt.lt {S : Sto} {b : Nat} (h : BagAt S b) : b < S.length := by obtain ⟨o, h, _⟩ := h; exact (List.getElem?_eq_some_iff.mp h).1
theorem BagAt.set {S : Sto} {b : Nat} {o : Ob} (h : BagAt S b) (ho : BagOk o) : BagAt (S.set b o) b := ⟨o, by rw [List.getElem?_set, if_pos rfl, if_pos h.lt], ho⟩
theorem BagAt.app {S : Sto} {b : Nat} {o : Ob} (h : BagAt S b) : BagAt (S ++ [o]) b := by
  obtain ⟨q, h1, h2⟩ := h
  exact ⟨q, by rw [List.getElem?_append_left (List.getElem?_eq_some_iff.mp h1).1]; exact h1, h2⟩
end DL
namespace DL
open PySem L2
theorem one_str (f : Nat) {S : Sto} {b : Nat} (hB : BagAt S b) (ds : List Dv) (h0 : 0 < ds.length) (h1 : ds.length < 1000) : ∃ (n : Nat) (o : Ob) (h : n < ds.length), calls (f + 2) .l_one S [.hdl b, .lst ds] = .ok ds[n] (S.set b o) ∧ BagOk o := by
  obtain ⟨r, o, e, r0, r1, ho⟩ := take_ok f hB (n := ds.length) (by omega) (by omega)
  refine ⟨r.toNat, o, by omega, ?_, ho⟩
  rw [ev_l_one, fb_l_one]
  have : atI ds r = some ds[r.toNat] := by
    unfold atI
    rw [ixN_ok r0 r1]
    simp
  simp [e, this]
def pwL : List Pw := [.q, .s, .f, .t, .r]
theorem bag_self {S : Sto} {b : Nat} {o : Ob} (h : S[b]? = some o) : S.set b o = S := by
  obtain ⟨h3, h4⟩ := List.getElem?_eq_some_iff.mp h
  rw [← h4, List.set_getElem_self]
theorem mix_loop (f : Nat) (b : Nat) (ds : Sl) : ∀ (xs acc : List Str) (S : Sto) (z : Sl), BagAt S b → xs.length + acc.length < 1000 → ∃ (ks : List Str) (o : Ob) (z' : Sl), forR (gN 3) (fb_l_mixed_l0 (calls (f + 1))) (xs.map Dv.str) [.va (.hdl b), ds, .ow (acc.map Dv.str), z] S = .nx [.va (.hdl b), ds, .ow (ks.map Dv.str), z'] (S.set b o) ∧ BagOk o ∧ ks.Perm (xs ++ acc)
  | [], acc, S, z, hB, hl => by
    obtain ⟨o, h1, h2⟩ := hB
    refine ⟨acc, o, z, ?_, h2, .refl _⟩
    rw [List.map_nil, forR_nil, bag_self h1]
  | x :: xs, acc, S, z, hB, hl => by
    obtain ⟨r, o, e, r0, r1, ho⟩ := take_ok f hB (n := acc.length + 1) (by omega) (by simp only [List.length_cons] at hl; omega)
    have hB1 := hB.set ho
    obtain ⟨ks, o2, z2, e2, ho2, hk2⟩ := mix_loop f b ds xs (acc.take r.toNat ++ [x] ++ acc.drop r.toNat) (S.set b o) (.va (.str x)) hB1 (by simp only [List.length_append, List.length_take, List.length_drop, List.length_cons, List.length_nil] at hl ⊢; omega)
    rw [List.set_set] at e2
    refine ⟨ks, o2, z2, ?_, ho2, ?_⟩
    · rw [← e2, List.map_cons]
      refine forR_nx (e1 := [.va (.hdl b), ds, .ow (acc.map Dv.str), .va (.str x)]) rfl ?_
      have e' : calls (f + 1) .l_take S [.hdl b, .int (((acc.map Dv.str).length : Int) + 1)] = .ok (.int r) (S.set b o) := by rw [List.length_map]; exact e
      have hi := qOwnM_ins (S.set b o) [.va (.hdl b), ds, .ow (acc.map Dv.str), .va (.str x)] (.str x) (acc.map Dv.str) 2 r ⟨by rw [List.length_map]; refine line_lt _ ?_; simp only [List.length_cons] at hl; omega, r0, by simp only [List.length_cons] at hl; omega⟩
      have hm : (acc.take r.toNat ++ [x] ++ acc.drop r.toNat).map Dv.str = (acc.map Dv.str).take r.toNat ++ [.str x] ++ (acc.map Dv.str).drop r.toNat := by simp
      rw [hm]
      rw [fb_l_mixed_l0]
      generalize acc.map Dv.str = q at *
      simp only [ev_ownM, List.getElem?_cons_succ, List.getElem?_cons_zero, kOwnM_ow, ev_acons, ev_call, ev_var, kVar_va, bnd_ok, ev_a1, ev_bin, ev_b1, ev_b2, ev_cb, ev_any, kAny_ow, ev_anil, ev_a2, ev_kcb, len_lst, ofO_some, ev_c, op_add_i, ev_kcall, e', kS_ok, hi, List.set_cons_succ, List.set_cons_zero]
    · refine hk2.trans ?_
      have h1 : (acc.take r.toNat ++ [x] ++ acc.drop r.toNat).Perm (x :: acc) := by
        have : (acc.take r.toNat ++ [x] ++ acc.drop r.toNat).Perm ([x] ++ acc.take r.toNat ++ acc.drop r.toNat) := (List.perm_append_comm).append_right _
        refine this.trans ?_
        rw [List.append_assoc, List.take_append_drop]
        exact .refl _
      refine (h1.append_left xs).trans ?_
      rw [List.cons_append]
      exact List.perm_middle
theorem mixed_ok (f : Nat) {S : Sto} {b : Nat} (hB : BagAt S b) (xs : List Str) (hx : xs.length < 1000) : ∃ (ks : List Str) (o : Ob), calls (f + 2) .l_mixed S [.hdl b, .lst (xs.map Dv.str)] = .ok (.lst (ks.map Dv.str)) (S.set b o) ∧ BagOk o ∧ ks.Perm xs := by
  obtain ⟨ks, o, z, e, ho, hk⟩ := mix_loop f b (.va (.lst (xs.map Dv.str))) xs [] S .no hB (by simpa using hx)
  refine ⟨ks, o, ?_, ho, by simpa using hk⟩
  rw [List.map_nil] at e
  rw [ev_l_mixed, fb_l_mixed]
  generalize xs.map Dv.str = q at e
  simp [e]
theorem cut_sub {α : Type} (l : List α) (lo hi : Option Int) : (cutG l lo hi).Sublist l := by
  unfold cutG
  exact (List.take_sublist _ _).trans (List.drop_sublist _ _)
def prL (m : PM) : List Dv := m.map fun q => .tup [.str q.1, .str (pwS q.2)]
theorem prsD_prL : ∀ m : PM, prsD (prL m) = some (encN m)
  | [] => rfl
  | (k, p) :: m => by
    have ih := prsD_prL m
    simp only [prL, encN, List.map_cons, prsD, prD, keyD] at ih ⊢
    rw [ih]; rfl
end DL
namespace DL
open PySem L2
def stepP (s : Str) (R : List PM) : List PM := R.flatMap fun row => pwL.map fun p => if p = .r then row else row ++ [(s, p)]
def rowsP (ss : List Str) : List PM := ss.foldl (fun R s => stepP s R) [[]]
def dicD (m : PM) : Dv := .dic (encN m)
def stp1 (row : PM) (s : Str) (p : Pw) : PM := if p = .r then row else row ++ [(s, p)]
theorem c_POWERS_eq : c_POWERS = .tup (pwL.map fun p => .str (pwS p)) := rfl
theorem pw_free (p : Pw) : decide (pwS p = ("free" : Str)) = decide (p = .r) := by cases p <;> decide +kernel
theorem ap0_ok (c : Fn → DF) {S : Sto} {x0 x1 x6 : Sl} {s : Str} {acc : List Dv} {row : PM} {p : Pw} (hs : s ∉ ksP row) (hr : row.length < 1000) (ha : acc.length < 100000) : ∃ y, fb_all_promises_l0 c [x0, x1, .va (.str s), .ow acc, .va (dicD row), .va (.str (pwS p)), x6] S = .nx [x0, x1, .va (.str s), .ow (acc ++ [dicD (stp1 row s p)]), .va (dicD row), .va (.str (pwS p)), y] S := by
  have e1 : sOwnN 6 (nD (dCopy (aCons (eVar 4) aNil))) [x0, x1, .va (.str s), .ow acc, .va (dicD row), .va (.str (pwS p)), x6] S = .nx [x0, x1, .va (.str s), .ow acc, .va (dicD row), .va (.str (pwS p)), .od (encN row)] S := by
    have : dcopK [dicD row] S = .ok (encN row) S := rfl
    generalize dicD row = d at *
    simp [dCopy, this]
  have e2 : sIf (tVal (eBin neE (eVar 5) (eC (.str "free")))) (sDPutO 6 (eVar 2) (eVar 5)) sNil [x0, x1, .va (.str s), .ow acc, .va (dicD row), .va (.str (pwS p)), .od (encN row)] S = .nx [x0, x1, .va (.str s), .ow acc, .va (dicD row), .va (.str (pwS p)), .od (encN (stp1 row s p))] S := by
    have hp := pw_free p
    by_cases h : p = .r
    · have h1 : stp1 row s p = row := if_pos h
      have h2 : decide (pwS p = ("free" : Str)) = true := by rw [hp]; simpa using h
      rw [h1]
      generalize dicD row = d at *
      have h3 : pwS p = ("free" : Str) := by simpa using h2
      simp [h3]
    · have h1 : stp1 row s p = row ++ [(s, p)] := if_neg h
      have h2 : ¬ (pwS p = ("free" : Str)) := by
        have : decide (pwS p = ("free" : Str)) = false := by rw [hp]; simpa using h
        simpa using this
      have hl : (encN row).length < sizeLine := by rw [encN_len]; exact line_lt _ (by omega)
      have h4 : dputO 6 (encN row) (.str (pwS p)) [x0, x1, .va (.str s), .ow acc, .va (dicD row), .va (.str (pwS p)), .od (encN row)] (.str s) S = .nx [x0, x1, .va (.str s), .ow acc, .va (dicD row), .va (.str (pwS p)), .od (encN (row ++ [(s, p)]))] S := by
        simp only [dputO, keyD, hl, if_pos, putD_enc_new hs]
        rfl
      rw [h1]
      have h5 : sDPutO 6 (eVar 2) (eVar 5) [x0, x1, .va (.str s), .ow acc, .va (dicD row), .va (.str (pwS p)), .od (encN row)] S = .nx [x0, x1, .va (.str s), .ow acc, .va (dicD row), .va (.str (pwS p)), .od (encN (row ++ [(s, p)]))] S := by
        unfold sDPutO
        rw [ev_sbind, ev_var]
        simp only [List.getElem?_cons_succ, List.getElem?_cons_zero, kVar_va, kS_ok]
        rw [ev_sbind, ev_var]
        simp only [List.getElem?_cons_succ, List.getElem?_cons_zero, kVar_va, kS_ok]
        exact h4
      generalize dicD row = d at *
      simp [h2, h5]
  refine ⟨.va (dicD (stp1 row s p)), ?_⟩
  rw [fb_all_promises_l0, ev_seq, e1, kSeq_nx, ev_seq, e2, kSeq_nx]
  have hq := qOwnM_app S [x0, x1, .va (.str s), .ow acc, .va (dicD row), .va (.str (pwS p)), .va (dicD (stp1 row s p))] (dicD (stp1 row s p)) acc 3 (line_lt _ ha)
  have e3 : sFz 6 [x0, x1, .va (.str s), .ow acc, .va (dicD row), .va (.str (pwS p)), .od (encN (stp1 row s p))] S = .nx [x0, x1, .va (.str s), .ow acc, .va (dicD row), .va (.str (pwS p)), .va (dicD (stp1 row s p))] S := rfl
  rw [ev_seq, e3, kSeq_nx]
  generalize dicD (stp1 row s p) = d2 at *
  generalize dicD row = d at *
  simp [hq]
theorem ap1_loop (c : Fn → DF) {S : Sto} {x0 x1 : Sl} {s : Str} {row : PM} (hs : s ∉ ksP row) (hr : row.length < 1000) : ∀ (ps : List Pw) (acc : List Dv) (x5 x6 : Sl), acc.length + ps.length < 100000 → ∃ y5 y6, forR (gN 5) (fb_all_promises_l0 c) (ps.map fun p => .str (pwS p)) [x0, x1, .va (.str s), .ow acc, .va (dicD row), x5, x6] S = .nx [x0, x1, .va (.str s), .ow (acc ++ ps.map fun p => dicD (stp1 row s p)), .va (dicD row), y5, y6] S
  | [], acc, x5, x6, _ => ⟨x5, x6, by simp [forR_nil]⟩
  | p :: ps, acc, x5, x6, hl => by
    simp only [List.length_cons] at hl
    obtain ⟨z, e⟩ := ap0_ok c (S := S) (x0 := x0) (x1 := x1) (x6 := x6) (acc := acc) (p := p) hs hr (by omega)
    obtain ⟨y5, y6, e2⟩ := ap1_loop c hs hr ps (acc ++ [dicD (stp1 row s p)]) (.va (.str (pwS p))) z (by simp only [List.length_append, List.length_cons, List.length_nil]; omega)
    refine ⟨y5, y6, ?_⟩
    rw [List.map_cons, forR_nx (e1 := [x0, x1, .va (.str s), .ow acc, .va (dicD row), .va (.str (pwS p)), x6]) rfl e, e2]
    simp
theorem ap2_loop (c : Fn → DF) {S : Sto} {x0 x1 : Sl} {s : Str} : ∀ (R : List PM) (acc : List Dv) (x4 x5 x6 : Sl), (∀ row ∈ R, s ∉ ksP row ∧ row.length < 1000) → acc.length + 5 * R.length < 100000 → ∃ y4 y5 y6, forR (gN 4) (fb_all_promises_l1 c) (R.map dicD) [x0, x1, .va (.str s), .ow acc, x4, x5, x6] S = .nx [x0, x1, .va (.str s), .ow (acc ++ (stepP s R).map dicD), y4, y5, y6] S
  | [], acc, x4, x5, x6, _, _ => ⟨x4, x5, x6, by simp [forR_nil, stepP]⟩
  | row :: R, acc, x4, x5, x6, h, hl => by
    simp only [List.length_cons] at hl
    obtain ⟨h1, h2⟩ := h row List.mem_cons_self
    have hpl : pwL.length = 5 := rfl
    obtain ⟨z5, z6, e⟩ := ap1_loop c (S := S) (x0 := x0) (x1 := x1) h1 h2 pwL acc x5 x6 (by omega)
    obtain ⟨y4, y5, y6, e2⟩ := ap2_loop c (S := S) (x0 := x0) (x1 := x1) R (acc ++ pwL.map fun p => dicD (stp1 row s p)) (.va (dicD row)) z5 z6 (fun r hr => h r (List.mem_cons_of_mem _ hr)) (by simp only [List.length_append, List.length_map]; omega)
    refine ⟨y4, y5, y6, ?_⟩
    have e' : fb_all_promises_l1 c [x0, x1, .va (.str s), .ow acc, .va (dicD row), x5, x6] S = .nx [x0, x1, .va (.str s), .ow (acc ++ pwL.map fun p => dicD (stp1 row s p)), .va (dicD row), z5, z6] S := by
      rw [fb_all_promises_l1, c_POWERS_eq]
      generalize pwL.map (fun p => Dv.str (pwS p)) = q at *
      generalize pwL.map (fun p => dicD (stp1 row s p)) = q2 at *
      generalize dicD row = d at *
      simp [e]
    rw [List.map_cons, forR_nx (e1 := [x0, x1, .va (.str s), .ow acc, .va (dicD row), x5, x6]) rfl e', e2]
    simp [stepP, stp1, Function.comp_def, List.append_assoc]
theorem ks_stp {row : PM} {s z : Str} {p : Pw} (h : z ∈ ksP (stp1 row s p)) : z ∈ ksP row ∨ z = s := by
  unfold stp1 at h
  split at h
  · exact .inl h
  · simpa [ksP] using h
theorem stepP_mem {s : Str} {R : List PM} {r : PM} (h : r ∈ stepP s R) : ∃ row ∈ R, ∃ p, r = stp1 row s p := by
  obtain ⟨row, h1, h2⟩ := List.mem_flatMap.mp h
  obtain ⟨p, _, h3⟩ := List.mem_map.mp h2
  exact ⟨row, h1, p, h3.symm⟩
theorem stepP_len (s : Str) (R : List PM) : (stepP s R).length = 5 * R.length := by
  unfold stepP
  induction R with
  | nil => rfl
  | cons r R ih =>
    rw [List.flatMap_cons, List.length_append, ih, List.length_map, List.length_cons]
    have : pwL.length = 5 := rfl
    omega
theorem ap3_loop (c : Fn → DF) {S : Sto} {x0 : Sl} : ∀ (ss : List Str) (R : List PM) (x2 x3 x4 x5 x6 : Sl), ss.Nodup → (∀ row ∈ R, (∀ s ∈ ss, s ∉ ksP row) ∧ row.length + ss.length < 1000) → R.length * 5 ^ ss.length < 20000 → ∃ y2 y3 y4 y5 y6, forR (gN 2) (fb_all_promises_l2 c) (ss.map .str) [x0, .va (.lst (R.map dicD)), x2, x3, x4, x5, x6] S = .nx [x0, .va (.lst ((ss.foldl (fun R s => stepP s R) R).map dicD)), y2, y3, y4, y5, y6] S
  | [], R, x2, x3, x4, x5, x6, _, _, _ => ⟨x2, x3, x4, x5, x6, rfl⟩
  | s :: ss, R, x2, x3, x4, x5, x6, nd, h, hl => by
    have nd' := List.nodup_cons.mp nd
    have hpow : 5 ^ (ss.length + 1) = 5 * 5 ^ ss.length := by rw [Nat.pow_succ, Nat.mul_comm]
    have hp1 : 1 ≤ 5 ^ ss.length := Nat.one_le_pow _ _ (by omega)
    simp only [List.length_cons] at hl h
    rw [hpow, ← Nat.mul_assoc] at hl
    have hR : R.length * 5 < 20000 := Nat.lt_of_le_of_lt (Nat.le_mul_of_pos_right _ hp1) hl
    obtain ⟨z4, z5, z6, e⟩ := ap2_loop c (S := S) (x0 := x0) (x1 := .va (.lst (R.map dicD))) (s := s) R [] x4 x5 x6 (fun row hr => ⟨(h row hr).1 s List.mem_cons_self, by have := (h row hr).2; omega⟩) (by simp only [List.length_nil]; omega)
    obtain ⟨y2, y3, y4, y5, y6, e2⟩ := ap3_loop c (S := S) (x0 := x0) ss (stepP s R) (.va (.str s)) (.va (.lst ((stepP s R).map dicD))) z4 z5 z6 nd'.2 (fun row hr => by
      obtain ⟨r, h1, p, rfl⟩ := stepP_mem hr
      obtain ⟨h2, h3⟩ := h r h1
      refine ⟨fun z hz hk => ?_, ?_⟩
      · rcases ks_stp hk with hk | hk
        · exact h2 z (List.mem_cons_of_mem _ hz) hk
        · exact nd'.1 (by rw [← hk]; exact hz)
      · unfold stp1
        split
        · omega
        · rw [List.length_append, List.length_singleton]; omega) (by rw [stepP_len, Nat.mul_comm 5]; exact hl)
    refine ⟨y2, y3, y4, y5, y6, ?_⟩
    have e' : fb_all_promises_l2 c [x0, .va (.lst (R.map dicD)), .va (.str s), x3, x4, x5, x6] S = .nx [x0, .va (.lst ((stepP s R).map dicD)), .va (.str s), .va (.lst ((stepP s R).map dicD)), z4, z5, z6] S := by
      rw [List.nil_append] at e
      rw [fb_all_promises_l2]
      generalize (stepP s R).map dicD = q2 at *
      generalize R.map dicD = q at *
      simp [e]
    rw [List.map_cons, forR_nx (e1 := [x0, .va (.lst (R.map dicD)), .va (.str s), x3, x4, x5, x6]) rfl e', e2]
    rfl
def PrHs (T : Sto) : List Nat → List PM → Prop
  | [], [] => True
  | h :: hs, m :: ms => PrH T h m ∧ PrHs T hs ms
  | _, _ => False
theorem PrHs.ext {S T : Sto} (e : Ext S T) : ∀ {hs : List Nat} {ms : List PM}, PrHs S hs ms → PrHs T hs ms
  | [], [], _ => trivial
  | _ :: _, _ :: _, h => ⟨h.1.ext e, PrHs.ext e h.2⟩
theorem PrHs.len {T : Sto} : ∀ {hs : List Nat} {ms : List PM}, PrHs T hs ms → hs.length = ms.length
  | [], [], _ => rfl
  | _ :: _, _ :: _, h => by rw [List.length_cons, List.length_cons, PrHs.len h.2]
theorem PrHs.get {T : Sto} : ∀ {hs : List Nat} {ms : List PM} (i : Nat) (h1 : i < hs.length) (h2 : i < ms.length), PrHs T hs ms → PrH T hs[i] ms[i]
  | _ :: _, _ :: _, 0, _, _, h => h.1
  | _ :: hs, _ :: ms, i + 1, h1, h2, h => PrHs.get (hs := hs) (ms := ms) i (by simpa using h1) (by simpa using h2) h.2
theorem mk_loop {U : List Str} (hU : Un U) (f : Nat) {e : Env} (he : ∀ d, (e.set 4 (.va d))[4]? = some (.va d)) : ∀ (R : List PM) (S : Sto), (∀ m ∈ R, (ksP m).Nodup ∧ ∀ s ∈ ksP m, s ∈ U) → ∃ (hs : List Nat) (T : Sto), lcR (gN 4) tTrue (eMkH "Promises" dl_Promises_1 (calls (f + 6) .Promises_init) (aCons (eVar 4) aNil)) e (R.map dicD) S = .ok (hs.map .hdl) T ∧ Ext S T ∧ PrHs T hs (R.map norm)
  | [], S, _ => ⟨[], S, rfl, Ext.refl S, trivial⟩
  | m :: R, S, h => by
    obtain ⟨h1, h2⟩ := h m List.mem_cons_self
    have hM := make_u hU f S m h1 h2
    obtain ⟨hs, T, e2, ex, hP⟩ := mk_loop hU f he R (S ++ prO S.length (norm m)) fun r hr => h r (List.mem_cons_of_mem _ hr)
    refine ⟨S.length :: hs, T, ?_, Ext.trans ⟨_, rfl⟩ ex, (prH_new S (norm m)).ext ex, hP⟩
    have hd0 : dl_Promises_1 = [] := rfl
    have h3 : eMkH "Promises" dl_Promises_1 (calls (f + 6) .Promises_init) (aCons (eVar 4) aNil) (e.set 4 (.va (dicD m))) S = .ok (.hdl S.length) (S ++ prO S.length (norm m)) := by
      have h4 := he (dicD m)
      unfold eMkH
      rw [hd0]
      simp only [ev_acons, ev_var, h4, kVar_va, bnd_ok, ev_a1, ev_anil, ev_a2]
      exact hM
    have h4 : tTrue (e.set 4 (.va (dicD m))) S = .ok true S := rfl
    rw [List.map_cons]
    unfold lcR
    simp only [ev_gN, h4, if_pos, h3, e2]
    rfl
theorem rowsP_g {U : List Str} : ∀ (ss : List Str) (R : List PM), ss.Nodup → (∀ s ∈ ss, s ∈ U) → (∀ m ∈ R, (ksP m).Nodup ∧ (∀ s ∈ ksP m, s ∈ U) ∧ ∀ s ∈ ss, s ∉ ksP m) → ∀ m ∈ ss.foldl (fun R s => stepP s R) R, (ksP m).Nodup ∧ ∀ s ∈ ksP m, s ∈ U
  | [], R, _, _, h => fun m hm => ⟨(h m hm).1, (h m hm).2.1⟩
  | s :: ss, R, nd, hs, h => by
    have nd' := List.nodup_cons.mp nd
    rw [List.foldl_cons]
    refine rowsP_g ss (stepP s R) nd'.2 (fun z hz => hs z (List.mem_cons_of_mem _ hz)) fun m hm => ?_
    obtain ⟨r, h1, p, rfl⟩ := stepP_mem hm
    obtain ⟨h2, h3, h4⟩ := h r h1
    refine ⟨?_, fun z hz => ?_, fun z hz hk => ?_⟩
    · unfold stp1
      split
      · exact h2
      · unfold ksP at h2 h4 ⊢
        rw [List.map_append, List.nodup_append]
        refine ⟨h2, by simp, fun a ha b hb => ?_⟩
        simp at hb
        subst hb
        exact fun e => h4 b List.mem_cons_self (by rw [← e]; exact ha)
    · rcases ks_stp hz with hz | hz
      · exact h3 z hz
      · rw [hz]; exact hs s List.mem_cons_self
    · rcases ks_stp hk with hk | hk
      · exact h4 z (List.mem_cons_of_mem _ hz) hk
      · exact nd'.1 (by rw [← hk]; exact hz)
theorem rowsP_len : ∀ (ss : List Str) (R : List PM), (ss.foldl (fun R s => stepP s R) R).length = R.length * 5 ^ ss.length
  | [], R => by simp
  | s :: ss, R => by
    rw [List.foldl_cons, rowsP_len ss (stepP s R), stepP_len, List.length_cons, Nat.pow_succ]
    rw [Nat.mul_comm 5, Nat.mul_assoc, Nat.mul_comm 5 (5 ^ ss.length)]
theorem allp_core {U : List Str} (hU : Un U) (f : Nat) (S : Sto) (ss : List Str) (nd : ss.Nodup) (hs : ∀ s ∈ ss, s ∈ U) (hl : ss.length ≤ 4) :
    ∃ (y2 y3 y4 y5 y6 : Sl) (hh : List Nat) (T : Sto), sFor (iSq (eVar 0)) (gN 2) (fb_all_promises_l2 (calls (f + 6))) [.va (.lst (ss.map .str)), .va (.lst [dicD []]), .no, .no, .no, .no, .no] S = .nx [.va (.lst (ss.map .str)), .va (.lst ((rowsP ss).map dicD)), y2, y3, y4, y5, y6] S ∧
      fLc (iSq (eVar 1)) (gN 4) tTrue (eMkH "Promises" dl_Promises_1 (calls (f + 6) .Promises_init) (aCons (eVar 4) aNil)) [4] [.va (.lst (ss.map .str)), .va (.lst ((rowsP ss).map dicD)), y2, y3, y4, y5, y6] S = .ok (hh.map .hdl) T ∧ Ext S T ∧ PrHs T hh ((rowsP ss).map norm) := by
  have h4 : 5 ^ ss.length ≤ 5 ^ 4 := Nat.pow_le_pow_right (by omega) hl
  obtain ⟨y2, y3, y4, y5, y6, e⟩ := ap3_loop (calls (f + 6)) (S := S) (x0 := .va (.lst (ss.map .str))) ss [[]] .no .no .no .no .no nd (fun row hr => by simp at hr; subst hr; exact ⟨fun s _ => by simp [ksP], by simp; omega⟩) (by simp only [List.length_cons, List.length_nil]; omega)
  have hg := rowsP_g (U := U) ss [[]] nd hs (fun m hm => by simp at hm; subst hm; simp [ksP])
  obtain ⟨hh, T, e2, ex, hP⟩ := mk_loop hU f (e := [.va (.lst (ss.map .str)), .va (.lst ((rowsP ss).map dicD)), y2, y3, .no, y5, y6]) (fun d => rfl) (rowsP ss) S hg
  refine ⟨y2, y3, y4, y5, y6, hh, T, ?_, ?_, ex, hP⟩
  · have e0 : [([] : PM)].map dicD = [dicD []] := rfl
    rw [e0] at e
    have e' : forR (gN 2) (fb_all_promises_l2 (calls (f + 6))) (ss.map .str) [.va (.lst (ss.map .str)), .va (.lst [dicD []]), .no, .no, .no, .no, .no] S = .nx [.va (.lst (ss.map .str)), .va (.lst ((rowsP ss).map dicD)), y2, y3, y4, y5, y6] S := e
    generalize (rowsP ss).map dicD = q at *
    generalize ss.map Dv.str = q0 at *
    simp [e']
  · have hlen : (hh.map Dv.hdl).length ≤ sizeLine := line_le _ (by
      have h1 := hP.len
      have h2 := rowsP_len ss [[]]
      simp only [List.length_map] at h1 ⊢
      have h3 : (rowsP ss).length = 5 ^ ss.length := by rw [show rowsP ss = ss.foldl (fun R s => stepP s R) [[]] from rfl, h2]; simp
      omega)
    generalize (rowsP ss).map dicD = q at *
    generalize ss.map Dv.str = q0 at *
    simp [e2, kLcEnd_ok _ _ hlen]
theorem allp_ok {U : List Str} (hU : Un U) (f : Nat) (S : Sto) (ss : List Str) (nd : ss.Nodup) (hs : ∀ s ∈ ss, s ∈ U) (hl : ss.length ≤ 4) : ∃ (hh : List Nat) (T : Sto), calls (f + 7) .all_promises S [.lst (ss.map .str)] = .ok (.lst (hh.map .hdl)) T ∧ Ext S T ∧ PrHs T hh ((rowsP ss).map norm) := by
  obtain ⟨y2, y3, y4, y5, y6, hh, T, e1, e2, ex, hP⟩ := allp_core hU f S ss nd hs hl
  refine ⟨hh, T, ?_, ex, hP⟩
  have e0 : sAsg 1 (eFrz (fLst (aCons (eFrzD dNil) aNil))) [.va (.lst (ss.map .str)), .no, .no, .no, .no, .no, .no] S = .nx [.va (.lst (ss.map .str)), .va (.lst [dicD []]), .no, .no, .no, .no, .no] S := by
    generalize ss.map Dv.str = q0
    rfl
  rw [ev_all_promises, fb_all_promises, ev_seq, e0, kSeq_nx, ev_seq, e1, kSeq_nx, ev_ret, ev_frz, e2, bnd_ok, ev_kfrz, kS_ok, ev_qret, kRun_rt]
end DL
namespace DL
open PySem L2
theorem bag_ext {S T : Sto} (h : BagAt S 0) (e : Ext S T) : BagAt T 0 := by
  obtain ⟨o, h1, h2⟩ := h
  exact ⟨o, e.get h1, h2⟩
theorem PrH.bag {S : Sto} {k : Nat} {m : PM} (h : PrH S k m) (hB : BagAt S 0) (o : Ob) : PrH (S.set 0 o) k m := by
  have hk : k ≠ 0 := fun e => by
    subst e
    obtain ⟨o', h1, c0, c1, c2, cs, rfl, _⟩ := hB
    rw [h.1] at h1
    cases h1
  exact ⟨by rw [List.getElem?_set_ne (Ne.symm hk)]; exact h.1, by rw [List.getElem?_set_ne (by omega)]; exact h.2⟩
theorem bag_other {S T : Sto} {k : Nat} {m : PM} (hB : BagAt S 0) (h : PrH S k m) (ht : ∀ i o, S[i]? = some o → i ≠ k + 1 → T[i]? = some o) : BagAt T 0 := by
  obtain ⟨o, h1, h2⟩ := hB
  exact ⟨o, ht 0 o h1 (by omega), h2⟩
theorem put_ev {c : Str} {g : DF} {fo fi fv : DE} {e : Env} {S S1 S2 S3 : Sto} {v o i : Dv} {r : Out} (h1 : fv e S = .ok v S1) (h2 : fo e S1 = .ok o S2) (h3 : fi e S2 = .ok i S3) (h : kPutO c g o v e i S3 = r) : sPutO c g fo fi fv e S = r := by
  unfold sPutO
  rw [ev_sbind, h1, kS_ok]
  show sBind fo _ e S1 = r
  rw [ev_sbind, h2, kS_ok]
  show sBind fi _ e S2 = r
  rw [ev_sbind, h3]
  exact h
theorem one_pwt (f : Nat) {S : Sto} {b : Nat} (hB : BagAt S b) : ∃ (p : Pw) (o : Ob), calls (f + 2) .l_one S [.hdl b, c_POWERS] = .ok (.str (pwS p)) (S.set b o) ∧ BagOk o := by
  obtain ⟨r, o, e, r0, r1, ho⟩ := take_ok f hB (n := 5) (by omega) (by omega)
  have hr : r.toNat < pwL.length := by show r.toNat < 5; omega
  refine ⟨pwL[r.toNat]'hr, o, ?_, ho⟩
  rw [ev_l_one, fb_l_one, c_POWERS_eq]
  have hl : lenD S [.tup (pwL.map fun p => .str (pwS p))] = some (.int 5, S) := rfl
  have : atI (pwL.map fun p => Dv.str (pwS p)) r = some (.str (pwS (pwL[r.toNat]'hr))) := by
    unfold atI
    rw [ixN_ok r0 (by show r < 5; exact r1), Option.bind_some, List.getElem?_map, List.getElem?_eq_getElem hr]
    rfl
  generalize pwL.map (fun p => Dv.str (pwS p)) = q at *
  generalize Dv.str (pwS (pwL[r.toNat]'hr)) = d at *
  simp only [ev_ret, ev_bin, ev_var, List.getElem?_cons_succ, List.getElem?_cons_zero, kVar_va, bnd_ok, ev_b1, ev_call, ev_acons, ev_a1, ev_cb, ev_anil, ev_a2, ev_kcb, hl, ofO_some, ev_kcall, e, ev_b2, ix_tup, this, kIx_some, kS_ok, ev_qret, kRun_rt]
theorem one_sg (f : Nat) {S : Sto} {b : Nat} (hB : BagAt S b) {ss : List Str} (h0 : ss ≠ []) (h1 : ss.length < 1000) : ∃ (s : Str) (o : Ob), calls (f + 2) .l_one S [.hdl b, .lst (ss.map .str)] = .ok (.str s) (S.set b o) ∧ BagOk o ∧ s ∈ ss := by
  obtain ⟨n, o, hn, e, ho⟩ := one_str f hB (ss.map .str) (by rw [List.length_map]; exact List.length_pos_iff.mpr h0) (by rw [List.length_map]; exact h1)
  have hn' : n < ss.length := by rwa [List.length_map] at hn
  refine ⟨ss[n], o, ?_, ho, List.getElem_mem hn'⟩
  rw [e, List.getElem_map]
theorem PrHs.mem {T : Sto} : ∀ {hs : List Nat} {ms : List PM}, PrHs T hs ms → ∀ h ∈ hs, ∃ m ∈ ms, PrH T h m
  | [], _, _, h, hm => by simp at hm
  | x :: hs, [], hp, h, hm => hp.elim
  | x :: hs, m :: ms, hp, h, hm => by
    rcases List.mem_cons.mp hm with e | hm
    · subst e; exact ⟨m, List.mem_cons_self, hp.1⟩
    · obtain ⟨m', h1, h2⟩ := PrHs.mem hp.2 h hm
      exact ⟨m', List.mem_cons_of_mem _ h1, h2⟩
theorem for_abs {fi : DL} {gd : DG} {b : DS} {e e' : Env} {S : Sto} {ds : List Dv} (h : fi e S = .ok ds S) (hb : forR gd b ds e S = .nx e' S) : sFor fi gd b e S = .nx e' S := by
  rw [ev_for, h, kS_ok, ev_qfor]
  exact hb
theorem merge_ex : ∀ (ps acc : PM), (ksP acc).Nodup → ∃ m : PM, mergeD (encN acc) (encN ps) = encN m ∧ (ksP m).Nodup ∧ ∀ s ∈ ksP m, s ∈ ksP acc ∨ s ∈ ksP ps
  | [], acc, nd => ⟨acc, rfl, nd, fun s h => .inl h⟩
  | (k, p) :: ps, acc, nd => by
    have hput : ∃ m1 : PM, putD (encN acc) (.inr k) (.str (pwS p)) = encN m1 ∧ (ksP m1).Nodup ∧ ∀ s ∈ ksP m1, s ∈ ksP acc ∨ s = k := by
      by_cases h : k ∈ ksP acc
      · refine ⟨acc.map fun q => if q.1 = k then (q.1, p) else q, ?_, ?_, fun s hs => .inl ?_⟩
        · have ha : ((encN acc).any fun kv => decide (kv.1 = (Sum.inr k : Key))) = true := by
            rw [List.any_eq_true]
            obtain ⟨q, hq, rfl⟩ := List.mem_map.mp h
            exact ⟨(.inr q.1, .str (pwS q.2)), List.mem_map.mpr ⟨q, hq, rfl⟩, by simp⟩
          unfold putD
          rw [if_pos ha]
          unfold encN
          rw [List.map_map, List.map_map]
          apply List.map_congr_left
          intro q _
          simp only [Function.comp]
          by_cases e : q.1 = k
          · subst e; simp
          · rw [if_neg (fun z => e (Sum.inr.inj z)), if_neg e]
        · have : ksP (acc.map fun q => if q.1 = k then (q.1, p) else q) = ksP acc := by
            unfold ksP
            rw [List.map_map]
            apply List.map_congr_left
            intro q _
            simp only [Function.comp]
            split <;> rfl
          rw [this]; exact nd
        · have : ksP (acc.map fun q => if q.1 = k then (q.1, p) else q) = ksP acc := by
            unfold ksP
            rw [List.map_map]
            apply List.map_congr_left
            intro q _
            simp only [Function.comp]
            split <;> rfl
          rwa [this] at hs
      · refine ⟨acc ++ [(k, p)], putD_enc_new h, ?_, fun s hs => ?_⟩
        · unfold ksP at h nd ⊢
          rw [List.map_append, List.nodup_append]
          refine ⟨nd, by simp, fun a ha b hb => ?_⟩
          simp at hb
          subst hb
          exact fun e => h (by rw [← e]; exact ha)
        · simpa [ksP] using hs
    obtain ⟨m1, h1, h2, h3⟩ := hput
    obtain ⟨m, h4, h5, h6⟩ := merge_ex ps m1 h2
    refine ⟨m, ?_, h5, fun s hs => ?_⟩
    · have e : encN ((k, p) :: ps) = (.inr k, .str (pwS p)) :: encN ps := rfl
      unfold mergeD at h4 ⊢
      rw [e, List.foldl_cons, h1, h4]
    · rcases h6 s hs with h | h
      · rcases h3 s h with h | h
        · exact .inl h
        · exact .inr (by rw [h]; exact List.mem_cons_self)
      · exact .inr (List.mem_cons_of_mem _ h)
theorem truth_ok (f : Nat) (S : Sto) (a b : Bool) : calls (f + 1) .l_truth S [.bl a, .bl b] = .ok (.bl (decide (a = b))) S := by
  cases a <;> cases b <;> kernel_rfl
theorem atm_ev {U : List Str} (hU : Un U) (f : Nat) {S : Sto} {e : Env} {i j h k : Nat} {m n : PM} (hi : e[i]? = some (.va (.hdl h))) (hj : e[j]? = some (.va (.hdl k))) (hp : PrH S h m) (hq : PrH S k n) (gm : PrG U m) (gn : PrG U n) : eMeth "Promises" "at_most" [] (calls (f + 2) .Promises_at_most) (eVar i) (aCons (eVar j) aNil) e S = .ok (.bl (leA m n)) S := by
  have g := atmost_ok hU f hp.v hq.v gm gn
  unfold eMeth
  rw [ev_var, hi, kVar_va, bnd_ok, kmeth_pr _ "at_most" (by decide +kernel) hp.v]
  simp only [ev_acons, ev_var, hj, kVar_va, bnd_ok, ev_a1, ev_anil, ev_a2]
  exact g
theorem valD_self {m : PM} (nd : (ksP m).Nodup) {q : Str × Pw} (h : q ∈ m) : valD (encN m) (.inr q.1) = some (.str (pwS q.2)) := by
  rw [valD_enc, lkP_of nd h]; rfl
theorem beq_dic (n : Nat) {m : PM} (nd : (ksP m).Nodup) : beqV (n + 2) (dicD m) (dicD m) = true := by
  unfold dicD
  simp only [beqV, Bool.and_eq_true, decide_eq_true_eq, List.all_eq_true]
  refine ⟨trivial, fun q hq => ?_⟩
  obtain ⟨z, hz, rfl⟩ := List.mem_map.mp hq
  rw [valD_self nd hz]
  simp [beqV]
theorem beq_all {l : List PM} {n : Nat} : (∀ m ∈ l, (ksP m).Nodup) → (((l.map dicD).zip (l.map dicD)).all fun q => beqV (n + 2) q.1 q.2) = true := by
  intro h
  induction l with
  | nil => rfl
  | cons m l ih =>
    simp only [List.map_cons, List.zip_cons_cons, List.all_cons, Bool.and_eq_true]
    exact ⟨beq_dic n (h m List.mem_cons_self), ih fun x hx => h x (List.mem_cons_of_mem _ hx)⟩
theorem eq_strs (S : Sto) {l : List Str} (h : ∀ s ∈ l, (PyData.str s).canLay0 = true) : eqD S (.lst (l.map .str)) (.lst (l.map .str)) = some true := eq_lst_same S (pl_lst fun d hd => by
  obtain ⟨s, hs, rfl⟩ := List.mem_map.mp hd
  exact pl_str (h s hs))
theorem mixD_loop (f : Nat) (b : Nat) (ds : Sl) : ∀ (xs acc : List Dv) (S : Sto) (z : Sl), BagAt S b → xs.length + acc.length < 1000 → ∃ (ks : List Dv) (o : Ob) (z' : Sl), forR (gN 3) (fb_l_mixed_l0 (calls (f + 1))) xs [.va (.hdl b), ds, .ow acc, z] S = .nx [.va (.hdl b), ds, .ow ks, z'] (S.set b o) ∧ BagOk o ∧ ks.Perm (xs ++ acc)
  | [], acc, S, z, hB, hl => by
    obtain ⟨o, h1, h2⟩ := hB
    refine ⟨acc, o, z, ?_, h2, .refl _⟩
    rw [forR_nil, bag_self h1]
  | x :: xs, acc, S, z, hB, hl => by
    obtain ⟨r, o, e, r0, r1, ho⟩ := take_ok f hB (n := acc.length + 1) (by omega) (by simp only [List.length_cons] at hl; omega)
    have hB1 := hB.set ho
    obtain ⟨ks, o2, z2, e2, ho2, hk2⟩ := mixD_loop f b ds xs (acc.take r.toNat ++ [x] ++ acc.drop r.toNat) (S.set b o) (.va x) hB1 (by simp only [List.length_append, List.length_take, List.length_drop, List.length_cons, List.length_nil] at hl ⊢; omega)
    rw [List.set_set] at e2
    refine ⟨ks, o2, z2, ?_, ho2, ?_⟩
    · rw [← e2]
      refine forR_nx (e1 := [.va (.hdl b), ds, .ow acc, .va x]) rfl ?_
      have hi := qOwnM_ins (S.set b o) [.va (.hdl b), ds, .ow acc, .va x] x acc 2 r ⟨by refine line_lt _ ?_; simp only [List.length_cons] at hl; omega, r0, by simp only [List.length_cons] at hl; omega⟩
      rw [fb_l_mixed_l0]
      simp only [ev_ownM, List.getElem?_cons_succ, List.getElem?_cons_zero, kOwnM_ow, ev_acons, ev_call, ev_var, kVar_va, bnd_ok, ev_a1, ev_bin, ev_b1, ev_b2, ev_cb, ev_any, kAny_ow, ev_anil, ev_a2, ev_kcb, len_lst, ofO_some, ev_c, op_add_i, ev_kcall, e, kS_ok, hi, List.set_cons_succ, List.set_cons_zero]
    · refine hk2.trans ?_
      have h1 : (acc.take r.toNat ++ [x] ++ acc.drop r.toNat).Perm (x :: acc) := by
        have : (acc.take r.toNat ++ [x] ++ acc.drop r.toNat).Perm ([x] ++ acc.take r.toNat ++ acc.drop r.toNat) := (List.perm_append_comm).append_right _
        refine this.trans ?_
        rw [List.append_assoc, List.take_append_drop]
        exact .refl _
      refine (h1.append_left xs).trans ?_
      rw [List.cons_append]
      exact List.perm_middle
theorem mixD_ok (f : Nat) {S : Sto} {b : Nat} (hB : BagAt S b) (xs : List Dv) (hx : xs.length < 1000) : ∃ (ks : List Dv) (o : Ob), calls (f + 2) .l_mixed S [.hdl b, .lst xs] = .ok (.lst ks) (S.set b o) ∧ BagOk o ∧ ks.Perm xs := by
  obtain ⟨ks, o, z, e, ho, hk⟩ := mixD_loop f b (.va (.lst xs)) xs [] S .no hB (by simpa using hx)
  refine ⟨ks, o, ?_, ho, by simpa using hk⟩
  rw [ev_l_mixed, fb_l_mixed]
  simp [e]
/-- a list of Promises in the store, whatever they are -/
def AllP (U : List Str) (S : Sto) (l : List Dv) : Prop := ∀ d ∈ l, ∃ (h : Nat) (m : PM), d = .hdl h ∧ PrH S h m ∧ PrG U m
theorem AllP.ext {U : List Str} {S T : Sto} {l : List Dv} (h : AllP U S l) (e : Ext S T) : AllP U T l := fun d hd => by
  obtain ⟨k, m, h1, h2, h3⟩ := h d hd
  exact ⟨k, m, h1, h2.ext e, h3⟩
theorem AllP.bag {U : List Str} {S : Sto} {l : List Dv} (h : AllP U S l) (hB : BagAt S 0) (o : Ob) : AllP U (S.set 0 o) l := fun d hd => by
  obtain ⟨k, m, h1, h2, h3⟩ := h d hd
  exact ⟨k, m, h1, h2.bag hB o, h3⟩
theorem AllP.sub {U : List Str} {S : Sto} {l l' : List Dv} (h : AllP U S l) (hs : ∀ d ∈ l', d ∈ l) : AllP U S l' := fun d hd => h d (hs d hd)
theorem AllP.app {U : List Str} {S : Sto} {l l' : List Dv} (h : AllP U S l) (h' : AllP U S l') : AllP U S (l ++ l') := fun d hd => by
  rcases List.mem_append.mp hd with z | z
  · exact h d z
  · exact h' d z
theorem AllP.pms {U : List Str} {S : Sto} : ∀ {l : List Dv}, AllP U S l → ∃ (hs : List Nat) (ms : List PM), l = hs.map .hdl ∧ PrHs S hs ms ∧ ∀ m ∈ ms, PrG U m
  | [], _ => ⟨[], [], rfl, trivial, by simp⟩
  | d :: l, h => by
    obtain ⟨k, m, rfl, h2, h3⟩ := h d List.mem_cons_self
    obtain ⟨hs, ms, rfl, h4, h5⟩ := AllP.pms (l := l) fun x hx => h x (List.mem_cons_of_mem _ hx)
    exact ⟨k :: hs, m :: ms, rfl, ⟨h2, h4⟩, fun x hx => by
      rcases List.mem_cons.mp hx with e | hx
      · rw [e]; exact h3
      · exact h5 x hx⟩
theorem PrHs.all {U : List Str} {S : Sto} : ∀ {hs : List Nat} {ms : List PM}, PrHs S hs ms → (∀ m ∈ ms, PrG U m) → AllP U S (hs.map .hdl)
  | [], [], _, _ => fun d hd => by simp at hd
  | h :: hs, m :: ms, hp, hg => fun d hd => by
    rw [List.map_cons] at hd
    rcases List.mem_cons.mp hd with e | hd
    · exact ⟨h, m, e, hp.1, hg m List.mem_cons_self⟩
    · exact PrHs.all (hs := hs) (ms := ms) hp.2 (fun x hx => hg x (List.mem_cons_of_mem _ hx)) d hd
end DL
namespace DL
open PySem L2
def menu65 : List Str := ["f", "add", "split2", "g"]
def U65 : List Str := ["f", "add", "split2", "g", "further"]
theorem un65 : Un U65 := by
  refine ⟨fun s hs f S p => ?_, by decide⟩
  simp only [U65, List.mem_cons, List.not_mem_nil, or_false] at hs
  rcases hs with rfl | rfl | rfl | rfl | rfl <;> cases p <;> kernel_rfl
theorem menu_nd : menu65.Nodup := by decide +kernel
theorem menu_sub : ∀ s ∈ menu65, s ∈ U65 := by decide +kernel
/-- the store goes on: what were Promises are Promises still, as they were -/
structure Kp (S T : Sto) : Prop where
  pr : ∀ h m, PrH S h m → PrH T h m
  le : S.length ≤ T.length
theorem Kp.refl (S : Sto) : Kp S S := ⟨fun _ _ h => h, Nat.le_refl _⟩
theorem Kp.trans {S T R : Sto} (a : Kp S T) (b : Kp T R) : Kp S R := ⟨fun h m x => b.pr h m (a.pr h m x), Nat.le_trans a.le b.le⟩
theorem Kp.ext {S T : Sto} (e : Ext S T) : Kp S T := ⟨fun _ _ h => h.ext e, e.le⟩
theorem Kp.bag {S : Sto} (hB : BagAt S 0) (o : Ob) : Kp S (S.set 0 o) := ⟨fun _ _ h => h.bag hB o, by simp⟩
theorem AllP.kp {S T : Sto} {l : List Dv} (h : AllP U65 S l) (k : Kp S T) : AllP U65 T l := fun d hd => by
  obtain ⟨x, m, h1, h2, h3⟩ := h d hd
  exact ⟨x, m, h1, k.pr _ _ h2, h3⟩
theorem so_loop (f : Nat) (x1 : Sl) : ∀ (ks : List Str) (S : Sto), BagAt S 0 → ∃ (ps : PM) (o : Ob), lcR (gN 2) tTrue (eTup (aCons (eVar 2) (aCons (eCall (calls (f + 2) .l_one) (aCons (eVar 0) (aCons (eC c_POWERS) aNil))) aNil))) [.va (.hdl 0), x1, .no] (ks.map Dv.str) S = .ok (prL ps) (S.set 0 o) ∧ BagOk o ∧ ksP ps = ks
  | [], S, hB => by
    obtain ⟨o, h1, h2⟩ := hB
    exact ⟨[], o, by rw [bag_self h1]; rfl, h2, rfl⟩
  | k :: ks, S, hB => by
    obtain ⟨p, o2, e2, ho2⟩ := one_pwt f hB
    obtain ⟨ps, o3, e3, ho3, hk⟩ := so_loop f x1 ks _ (hB.set ho2)
    rw [List.set_set] at e3
    refine ⟨(k, p) :: ps, o3, ?_, ho3, by simp [ksP] at hk ⊢; exact hk⟩
    have h3 : eTup (aCons (eVar 2) (aCons (eCall (calls (f + 2) .l_one) (aCons (eVar 0) (aCons (eC c_POWERS) aNil))) aNil)) [.va (.hdl 0), x1, .va (.str k)] S = .ok (.tup [.str k, .str (pwS p)]) (S.set 0 o2) := by
      generalize c_POWERS = cp at *
      simp [e2]
    have h4 : tTrue [.va (.hdl 0), x1, .va (.str k)] S = .ok true S := rfl
    rw [List.map_cons]
    unfold lcR
    simp only [ev_gN, List.set_cons_succ, List.set_cons_zero, h4, if_pos, h3, e3]
    rfl
theorem some_ok (f : Nat) {S : Sto} (hB : BagAt S 0) (ks : List Str) (hks : ∀ s ∈ ks, s ∈ U65) (hl : ks.length < 1000) : ∃ (h : Nat) (T : Sto) (m : PM), calls (f + 7) .l_some S [.hdl 0, .lst (ks.map .str)] = .ok (.hdl h) T ∧ BagAt T 0 ∧ Kp S T ∧ PrH T h m ∧ PrG U65 m := by
  obtain ⟨ps, o, e, ho, hk⟩ := so_loop (f + 4) (.va (.lst (ks.map .str))) ks S hB
  obtain ⟨m, h1, h2, h3⟩ := merge_ex ps [] (by simp [ksP])
  have hsub : ∀ s ∈ ksP m, s ∈ ks := fun s hs => by
    rcases h3 s hs with h | h
    · simp [ksP] at h
    · rwa [hk] at h
  have hM := make_u un65 f (S.set 0 o) m h2 (fun s hs => hks s (hsub s hs))
  refine ⟨(S.set 0 o).length, S.set 0 o ++ prO (S.set 0 o).length (norm m), norm m, ?_, bag_ext (hB.set ho) ⟨_, rfl⟩, (Kp.bag hB o).trans (Kp.ext ⟨_, rfl⟩), prH_new _ _, norm_g fun s hs => hks s (hsub s hs)⟩
  have hd : dictK [.lst (prL ps)] (S.set 0 o) = .ok (encN m) (S.set 0 o) := by
    have e0 : encN [] = [] := rfl
    rw [e0] at h1
    simp only [dictK, asL, prsD_prL, h1]
  have hlq : (prL ps).length ≤ sizeLine := line_le _ (by
    have : ps.length = ks.length := by rw [← hk]; simp [ksP]
    unfold prL; rw [List.length_map]; omega)
  have hd0 : dl_Promises_1 = [] := rfl
  rw [ev_l_some, fb_l_some]
  generalize encN m = em at *
  generalize prL ps = q2 at *
  generalize ks.map Dv.str = q at *
  generalize S.set 0 o = S1 at *
  have s1 : eMkH "Promises" dl_Promises_1 (calls (f + 6) .Promises_init) (aCons (eFrzD (dDict (aCons (eFrz (fLc (iSq (eVar 1)) (gN 2) tTrue (eTup (aCons (eVar 2) (aCons (eCall (calls (f + 6) .l_one) (aCons (eVar 0) (aCons (eC c_POWERS) aNil))) aNil))) [2])) aNil))) aNil) [.va (.hdl 0), .va (.lst q), .no] S = .ok (.hdl S1.length) (S1 ++ prO S1.length (norm m)) := by
    generalize c_POWERS = cp at *
    generalize (norm m) = nm at *
    simp [eMkH, dDict, e, kLcEnd_ok _ _ hlq, hd, hd0, hM]
  rw [ev_ret, s1]
  rfl
theorem somes_loop (f : Nat) {e : Env} {ks : List Str} (hks : ∀ s ∈ ks, s ∈ U65) (hl : ks.length < 1000) (he0 : ∀ d, (e.set 6 (.va d))[0]? = some (.va (.hdl 0))) (he1 : ∀ d, (e.set 6 (.va d))[1]? = some (.va (.lst (ks.map .str)))) : ∀ (ds : List Dv) (S : Sto), BagAt S 0 → ∃ (l : List Dv) (T : Sto), lcR (gN 6) tTrue (eCall (calls (f + 7) .l_some) (aCons (eVar 0) (aCons (eVar 1) aNil))) e ds S = .ok l T ∧ BagAt T 0 ∧ Kp S T ∧ AllP U65 T l ∧ l.length = ds.length
  | [], S, hB => ⟨[], S, rfl, hB, Kp.refl S, fun d hd => by simp at hd, rfl⟩
  | d :: ds, S, hB => by
    obtain ⟨h, T1, m, e1, hB1, k1, p1, g1⟩ := some_ok f hB ks hks hl
    obtain ⟨l, T, e2, hB2, k2, a2, l2⟩ := somes_loop f hks hl he0 he1 ds T1 hB1
    refine ⟨.hdl h :: l, T, ?_, hB2, k1.trans k2, fun x hx => ?_, by simp [l2]⟩
    · have h3 : eCall (calls (f + 7) .l_some) (aCons (eVar 0) (aCons (eVar 1) aNil)) (e.set 6 (.va d)) S = .ok (.hdl h) T1 := by
        rw [ev_call]
        simp only [ev_acons, ev_var, he0, he1, kVar_va, bnd_ok, ev_a1, ev_anil, ev_a2, ev_kcall]
        exact e1
      have h4 : tTrue (e.set 6 (.va d)) S = .ok true S := rfl
      unfold lcR
      simp only [ev_gN, h4, if_pos, h3, e2]
    · rcases List.mem_cons.mp hx with z | z
      · exact ⟨h, m, z, k2.pr _ _ p1, g1⟩
      · exact a2 x z
theorem eq_nil (S : Sto) (l : List Dv) : eqD S (.lst l) (.lst []) = some (decide (l.length = 0)) := by
  cases l with
  | nil => exact eq_strs S (l := []) (by simp)
  | cons d l =>
    unfold eqD
    have : lenNe (asL S (.lst (d :: l))) (asL S (.lst [])) = true := rfl
    simp only [this, if_pos]
    rfl
theorem cnt_loop (f : Nat) {S : Sto} {e : Env} {te : DE} {i j h : Nat} {a : PM} (ga : PrG U65 a) (pa : PrH S h a) (hi : ∀ d, (e.set j (.va d))[i]? = some (.va (.hdl h))) (hj : ∀ d, (e.set j (.va d))[j]? = some (.va d)) (hte : ∀ d, ∃ y, te (e.set j (.va d)) S = .ok y S) :
    ∀ (hs : List Nat) (ms : List PM), PrHs S hs ms → (∀ m ∈ ms, PrG U65 m) → ∃ l, lcR (gN j) (tTru (eMeth "Promises" "at_most" [] (calls (f + 2) .Promises_at_most) (eVar i) (aCons (eVar j) aNil))) te e (hs.map .hdl) S = .ok l S ∧ l.length = (ms.filter fun m => leA a m).length
  | [], [], _, _ => ⟨[], rfl, rfl⟩
  | x :: hs, m :: ms, hp, hg => by
    have gm := hg m List.mem_cons_self
    obtain ⟨l, e1, e2⟩ := cnt_loop f ga pa hi hj hte hs ms hp.2 fun z hz => hg z (List.mem_cons_of_mem _ hz)
    have t1 := atm_ev un65 f (hi (.hdl x)) (hj (.hdl x)) pa hp.1 ga gm
    obtain ⟨y, hy⟩ := hte (.hdl x)
    have t2 : tTru (eMeth "Promises" "at_most" [] (calls (f + 2) .Promises_at_most) (eVar i) (aCons (eVar j) aNil)) (e.set j (.va (.hdl x))) S = .ok (leA a m) S := by
      rw [ev_ttru, t1, bnd_ok, ev_truR, tru_bl, kTru_some]
    cases hl : leA a m with
    | true =>
      rw [hl] at t2
      refine ⟨y :: l, ?_, by rw [List.filter_cons_of_pos hl]; simp [e2]⟩
      rw [List.map_cons]
      unfold lcR
      simp only [ev_gN, t2, if_pos, hy, e1]
    | false =>
      rw [hl] at t2
      refine ⟨l, ?_, by rw [List.filter_cons_of_neg (by simp [hl])]; exact e2⟩
      rw [List.map_cons]
      unfold lcR
      simp only [ev_gN, t2, e1]
      rfl
theorem cnt_loop' (f : Nat) {S : Sto} {e : Env} {te : DE} {i j h : Nat} {a : PM} (ga : PrG U65 a) (pa : PrH S h a) (hi : ∀ d, (e.set j (.va d))[i]? = some (.va (.hdl h))) (hj : ∀ d, (e.set j (.va d))[j]? = some (.va d)) (hte : ∀ d, ∃ y, te (e.set j (.va d)) S = .ok y S) :
    ∀ (hs : List Nat) (ms : List PM), PrHs S hs ms → (∀ m ∈ ms, PrG U65 m) → ∃ l, lcR (gN j) (tTru (eMeth "Promises" "at_most" [] (calls (f + 2) .Promises_at_most) (eVar j) (aCons (eVar i) aNil))) te e (hs.map .hdl) S = .ok l S ∧ l.length = (ms.filter fun m => leA m a).length
  | [], [], _, _ => ⟨[], rfl, rfl⟩
  | x :: hs, m :: ms, hp, hg => by
    have gm := hg m List.mem_cons_self
    obtain ⟨l, e1, e2⟩ := cnt_loop' f ga pa hi hj hte hs ms hp.2 fun z hz => hg z (List.mem_cons_of_mem _ hz)
    have t1 := atm_ev un65 f (hj (.hdl x)) (hi (.hdl x)) hp.1 pa gm ga
    obtain ⟨y, hy⟩ := hte (.hdl x)
    have t2 : tTru (eMeth "Promises" "at_most" [] (calls (f + 2) .Promises_at_most) (eVar j) (aCons (eVar i) aNil)) (e.set j (.va (.hdl x))) S = .ok (leA m a) S := by
      rw [ev_ttru, t1, bnd_ok, ev_truR, tru_bl, kTru_some]
    cases hl : leA m a with
    | true =>
      rw [hl] at t2
      refine ⟨y :: l, ?_, by simp [List.filter_cons, hl, e2]⟩
      rw [List.map_cons]
      unfold lcR
      simp only [ev_gN, t2, if_pos, hy, e1]
    | false =>
      rw [hl] at t2
      refine ⟨l, ?_, by simp [List.filter_cons, hl, e2]⟩
      rw [List.map_cons]
      unfold lcR
      simp only [ev_gN, t2, e1]
      rfl
def bo1 (tm bm : List PM) (a : PM) : Bool := decide ((tm.filter fun m => leA a m).length = 0) == decide ((bm.filter fun m => leA m a).length = 0)
/-- the part that both walks share: a comprehension's list, empty or not -/
theorem nonempty_ev {fi : DL} {gd : DG} {tt : DT} {te : DE} {vs : List Nat} {e : Env} {S : Sto} {ds l : List Dv} (hf : fi e S = .ok ds S) (hL : lcR gd tt te (wipeE e vs) ds S = .ok l S) (hl : l.length ≤ 1000) : eBin neE (eFrz (fLc fi gd tt te vs)) (eFrz (fLst aNil)) e S = .ok (.bl (!decide (l.length = 0))) S := by
  have hq := eq_nil S l
  have hk := kLcEnd_ok S l (line_le _ (by omega))
  rw [ev_bin, ev_frz, ev_fLc, hf, bnd_ok, ev_kLc, hL, hk, bnd_ok, ev_kfrz, bnd_ok, ev_b1]
  have : eFrz (fLst aNil) e S = .ok (.lst []) S := rfl
  rw [this, bnd_ok, ev_b2, ev_neE, hq, kNe_some, ofO_some]
theorem empty_ev {fi : DL} {gd : DG} {tt : DT} {te : DE} {vs : List Nat} {e : Env} {S : Sto} {ds l : List Dv} (hf : fi e S = .ok ds S) (hL : lcR gd tt te (wipeE e vs) ds S = .ok l S) (hl : l.length ≤ 1000) : tVal (eBin eqE (eFrz (fLc fi gd tt te vs)) (eFrz (fLst aNil))) e S = .ok (decide (l.length = 0)) S := by
  have hq := eq_nil S l
  have hk := kLcEnd_ok S l (line_le _ (by omega))
  rw [ev_tval, ev_bin, ev_frz, ev_fLc, hf, bnd_ok, ev_kLc, hL, hk, bnd_ok, ev_kfrz, bnd_ok, ev_b1]
  have : eFrz (fLst aNil) e S = .ok (.lst []) S := rfl
  rw [this, bnd_ok, ev_b2, ev_eqE, hq, kEq_some, ofO_some, bnd_ok, blD_bl]
end DL
namespace DL
open PySem L2
abbrev E8 (x0 x1 x2 x3 x4 x5 x6 : Sl) : Env := [x0, x1, x2, x3, x4, x5, x6]
theorem seq_var {e : Env} {S : Sto} {i : Nat} {l : List Dv} (h : e[i]? = some (.va (.lst l))) : iSq (eVar i) e S = .ok l S := by
  rw [ev_isq, ev_var, h, kVar_va, bnd_ok, seqR_lst]
theorem bd0_ok (f : Nat) {S : Sto} {x0 x4 x5 x6 : Sl} {hs1 hs2 : List Nat} {tm bm : List PM} {h : Nat} {a : PM} (p1 : PrHs S hs1 tm) (p2 : PrHs S hs2 bm) (g1 : ∀ m ∈ tm, PrG U65 m) (g2 : ∀ m ∈ bm, PrG U65 m) (pa : PrH S h a) (ga : PrG U65 a) (l1 : tm.length ≤ 900) (l2 : bm.length ≤ 900) :
    ∃ y4 y5, fb_is_border_l0 (calls (f + 2)) (E8 x0 (.va (.lst (hs1.map .hdl))) (.va (.lst (hs2.map .hdl))) (.va (.hdl h)) x4 x5 x6) S = if bo1 tm bm a then .rt (.bl false) S else .nx (E8 x0 (.va (.lst (hs1.map .hdl))) (.va (.lst (hs2.map .hdl))) (.va (.hdl h)) y4 y5 x6) S := by
  obtain ⟨c1, e1, n1⟩ := cnt_loop f (S := S) (e := [x0, .va (.lst (hs1.map .hdl)), .va (.lst (hs2.map .hdl)), .va (.hdl h), x4, x5, .no]) (te := eC (.int 1)) (i := 3) (j := 6) ga pa (fun d => rfl) (fun d => rfl) (fun d => ⟨_, rfl⟩) hs1 tm p1 g1
  have n1' : c1.length ≤ 1000 := by rw [n1]; exact Nat.le_trans (List.length_filter_le _ _) (by omega)
  have v1 := nonempty_ev (fi := iSq (eVar 1)) (vs := [6]) (e := E8 x0 (.va (.lst (hs1.map .hdl))) (.va (.lst (hs2.map .hdl))) (.va (.hdl h)) x4 x5 x6) (seq_var rfl) e1 n1'
  rw [n1] at v1
  let b1 : Bool := decide ((tm.filter fun m => leA a m).length = 0)
  obtain ⟨c2, e2, n2⟩ := cnt_loop' f (S := S) (e := [x0, .va (.lst (hs1.map .hdl)), .va (.lst (hs2.map .hdl)), .va (.hdl h), .va (.bl !b1), x5, .no]) (te := eC (.int 1)) (i := 3) (j := 6) ga pa (fun d => rfl) (fun d => rfl) (fun d => ⟨_, rfl⟩) hs2 bm p2 g2
  have n2' : c2.length ≤ 1000 := by rw [n2]; exact Nat.le_trans (List.length_filter_le _ _) (by omega)
  have v2 := nonempty_ev (fi := iSq (eVar 2)) (vs := [6]) (e := E8 x0 (.va (.lst (hs1.map .hdl))) (.va (.lst (hs2.map .hdl))) (.va (.hdl h)) (.va (.bl !b1)) x5 x6) (seq_var rfl) e2 n2'
  rw [n2] at v2
  let b2 : Bool := decide ((bm.filter fun m => leA m a).length = 0)
  refine ⟨.va (.bl !b1), .va (.bl !b2), ?_⟩
  have hb : bo1 tm bm a = (b1 == b2) := rfl
  rw [hb, fb_is_border_l0]
  have s1 : sAsg 4 (eBin neE (eFrz (fLc (iSq (eVar 1)) (gN 6) (tTru (eMeth "Promises" "at_most" [] (calls (f + 2) .Promises_at_most) (eVar 3) (aCons (eVar 6) aNil))) (eC (.int 1)) [6])) (eFrz (fLst aNil))) (E8 x0 (.va (.lst (hs1.map .hdl))) (.va (.lst (hs2.map .hdl))) (.va (.hdl h)) x4 x5 x6) S = .nx (E8 x0 (.va (.lst (hs1.map .hdl))) (.va (.lst (hs2.map .hdl))) (.va (.hdl h)) (.va (.bl !b1)) x5 x6) S := by
    rw [ev_asg, v1]
    rfl
  have s2 : sAsg 5 (eBin neE (eFrz (fLc (iSq (eVar 2)) (gN 6) (tTru (eMeth "Promises" "at_most" [] (calls (f + 2) .Promises_at_most) (eVar 6) (aCons (eVar 3) aNil))) (eC (.int 1)) [6])) (eFrz (fLst aNil))) (E8 x0 (.va (.lst (hs1.map .hdl))) (.va (.lst (hs2.map .hdl))) (.va (.hdl h)) (.va (.bl !b1)) x5 x6) S = .nx (E8 x0 (.va (.lst (hs1.map .hdl))) (.va (.lst (hs2.map .hdl))) (.va (.hdl h)) (.va (.bl !b1)) (.va (.bl !b2)) x6) S := by
    rw [ev_asg, v2]
    rfl
  rw [ev_seq, s1, kSeq_nx, ev_seq, s2, kSeq_nx]
  generalize b1 = c1 at *
  generalize b2 = c2 at *
  generalize hs1.map Dv.hdl = q1 at *
  generalize hs2.map Dv.hdl = q2 at *
  cases c1 <;> cases c2 <;> simp
abbrev E9 (x0 x1 x2 x3 x4 x5 x6 x7 : Sl) : Env := [x0, x1, x2, x3, x4, x5, x6, x7]
theorem du0_ok (f : Nat) {S : Sto} {x0 x4 x5 x6 x7 : Sl} {hs1 hs2 : List Nat} {tm bm : List PM} {h : Nat} {a : PM} (p1 : PrHs S hs1 tm) (p2 : PrHs S hs2 bm) (g1 : ∀ m ∈ tm, PrG U65 m) (g2 : ∀ m ∈ bm, PrG U65 m) (pa : PrH S h a) (ga : PrG U65 a) (l1 : tm.length ≤ 900) (l2 : bm.length ≤ 900) :
    ∃ y4 y5, fb_l_due_l0 (calls (f + 2)) (E9 x0 (.va (.lst (hs1.map .hdl))) (.va (.lst (hs2.map .hdl))) (.va (.hdl h)) x4 x5 x6 x7) S = if bo1 tm bm a then .rt (.bl false) S else .nx (E9 x0 (.va (.lst (hs1.map .hdl))) (.va (.lst (hs2.map .hdl))) (.va (.hdl h)) y4 y5 x6 x7) S := by
  obtain ⟨c1, e1, n1⟩ := cnt_loop f (S := S) (e := [x0, .va (.lst (hs1.map .hdl)), .va (.lst (hs2.map .hdl)), .va (.hdl h), x4, x5, .no, x7]) (te := eVar 6) (i := 3) (j := 6) ga pa (fun d => rfl) (fun d => rfl) (fun d => ⟨_, rfl⟩) hs1 tm p1 g1
  have n1' : c1.length ≤ 1000 := by rw [n1]; exact Nat.le_trans (List.length_filter_le _ _) (by omega)
  have v1 := nonempty_ev (fi := iSq (eVar 1)) (vs := [6]) (e := E9 x0 (.va (.lst (hs1.map .hdl))) (.va (.lst (hs2.map .hdl))) (.va (.hdl h)) x4 x5 x6 x7) (seq_var rfl) e1 n1'
  rw [n1] at v1
  let b1 : Bool := decide ((tm.filter fun m => leA a m).length = 0)
  obtain ⟨c2, e2, n2⟩ := cnt_loop' f (S := S) (e := [x0, .va (.lst (hs1.map .hdl)), .va (.lst (hs2.map .hdl)), .va (.hdl h), .va (.bl !b1), x5, x6, .no]) (te := eVar 7) (i := 3) (j := 7) ga pa (fun d => rfl) (fun d => rfl) (fun d => ⟨_, rfl⟩) hs2 bm p2 g2
  have n2' : c2.length ≤ 1000 := by rw [n2]; exact Nat.le_trans (List.length_filter_le _ _) (by omega)
  have v2 := nonempty_ev (fi := iSq (eVar 2)) (vs := [7]) (e := E9 x0 (.va (.lst (hs1.map .hdl))) (.va (.lst (hs2.map .hdl))) (.va (.hdl h)) (.va (.bl !b1)) x5 x6 x7) (seq_var rfl) e2 n2'
  rw [n2] at v2
  let b2 : Bool := decide ((bm.filter fun m => leA m a).length = 0)
  refine ⟨.va (.bl !b1), .va (.bl !b2), ?_⟩
  have hb : bo1 tm bm a = (b1 == b2) := rfl
  rw [hb, fb_l_due_l0]
  have s1 : sAsg 4 (eBin neE (eFrz (fLc (iSq (eVar 1)) (gN 6) (tTru (eMeth "Promises" "at_most" [] (calls (f + 2) .Promises_at_most) (eVar 3) (aCons (eVar 6) aNil))) (eVar 6) [6])) (eFrz (fLst aNil))) (E9 x0 (.va (.lst (hs1.map .hdl))) (.va (.lst (hs2.map .hdl))) (.va (.hdl h)) x4 x5 x6 x7) S = .nx (E9 x0 (.va (.lst (hs1.map .hdl))) (.va (.lst (hs2.map .hdl))) (.va (.hdl h)) (.va (.bl !b1)) x5 x6 x7) S := by
    rw [ev_asg, v1]
    rfl
  have s2 : sAsg 5 (eBin neE (eFrz (fLc (iSq (eVar 2)) (gN 7) (tTru (eMeth "Promises" "at_most" [] (calls (f + 2) .Promises_at_most) (eVar 7) (aCons (eVar 3) aNil))) (eVar 7) [7])) (eFrz (fLst aNil))) (E9 x0 (.va (.lst (hs1.map .hdl))) (.va (.lst (hs2.map .hdl))) (.va (.hdl h)) (.va (.bl !b1)) x5 x6 x7) S = .nx (E9 x0 (.va (.lst (hs1.map .hdl))) (.va (.lst (hs2.map .hdl))) (.va (.hdl h)) (.va (.bl !b1)) (.va (.bl !b2)) x6 x7) S := by
    rw [ev_asg, v2]
    rfl
  rw [ev_seq, s1, kSeq_nx, ev_seq, s2, kSeq_nx]
  generalize b1 = c1 at *
  generalize b2 = c2 at *
  generalize hs1.map Dv.hdl = q1 at *
  generalize hs2.map Dv.hdl = q2 at *
  cases c1 <;> cases c2 <;> simp
theorem bd_loop (f : Nat) {S : Sto} {x0 x6 : Sl} {hs1 hs2 : List Nat} {tm bm : List PM} (p1 : PrHs S hs1 tm) (p2 : PrHs S hs2 bm) (g1 : ∀ m ∈ tm, PrG U65 m) (g2 : ∀ m ∈ bm, PrG U65 m) (l1 : tm.length ≤ 900) (l2 : bm.length ≤ 900) : ∀ (hs : List Nat) (R : List PM) (x3 x4 x5 : Sl), PrHs S hs R → (∀ m ∈ R, PrG U65 m) →
    ∃ y3 y4 y5, forR (gN 3) (fb_is_border_l0 (calls (f + 2))) (hs.map .hdl) (E8 x0 (.va (.lst (hs1.map .hdl))) (.va (.lst (hs2.map .hdl))) x3 x4 x5 x6) S = if R.any (bo1 tm bm) then .rt (.bl false) S else .nx (E8 x0 (.va (.lst (hs1.map .hdl))) (.va (.lst (hs2.map .hdl))) y3 y4 y5 x6) S
  | [], [], x3, x4, x5, _, _ => ⟨x3, x4, x5, rfl⟩
  | h :: hs, a :: R, x3, x4, x5, hp, hg => by
    obtain ⟨z4, z5, e⟩ := bd0_ok f (x0 := x0) (x4 := x4) (x5 := x5) (x6 := x6) p1 p2 g1 g2 hp.1 (hg a List.mem_cons_self) l1 l2
    obtain ⟨y3, y4, y5, e2⟩ := bd_loop f (x0 := x0) (x6 := x6) p1 p2 g1 g2 l1 l2 hs R (.va (.hdl h)) z4 z5 hp.2 fun m hm => hg m (List.mem_cons_of_mem _ hm)
    refine ⟨y3, y4, y5, ?_⟩
    rw [List.map_cons, List.any_cons]
    cases hb : bo1 tm bm a with
    | true =>
      rw [hb, if_pos rfl] at e
      rw [forR_rt (e1 := E8 x0 (.va (.lst (hs1.map .hdl))) (.va (.lst (hs2.map .hdl))) (.va (.hdl h)) x4 x5 x6) rfl e]
      rfl
    | false =>
      rw [hb, if_neg (by decide)] at e
      rw [forR_nx (e1 := E8 x0 (.va (.lst (hs1.map .hdl))) (.va (.lst (hs2.map .hdl))) (.va (.hdl h)) x4 x5 x6) rfl e, e2, Bool.false_or]
theorem du_loop (f : Nat) {S : Sto} {x0 x6 x7 : Sl} {hs1 hs2 : List Nat} {tm bm : List PM} (p1 : PrHs S hs1 tm) (p2 : PrHs S hs2 bm) (g1 : ∀ m ∈ tm, PrG U65 m) (g2 : ∀ m ∈ bm, PrG U65 m) (l1 : tm.length ≤ 900) (l2 : bm.length ≤ 900) : ∀ (hs : List Nat) (R : List PM) (x3 x4 x5 : Sl), PrHs S hs R → (∀ m ∈ R, PrG U65 m) →
    ∃ y3 y4 y5, forR (gN 3) (fb_l_due_l0 (calls (f + 2))) (hs.map .hdl) (E9 x0 (.va (.lst (hs1.map .hdl))) (.va (.lst (hs2.map .hdl))) x3 x4 x5 x6 x7) S = if R.any (bo1 tm bm) then .rt (.bl false) S else .nx (E9 x0 (.va (.lst (hs1.map .hdl))) (.va (.lst (hs2.map .hdl))) y3 y4 y5 x6 x7) S
  | [], [], x3, x4, x5, _, _ => ⟨x3, x4, x5, rfl⟩
  | h :: hs, a :: R, x3, x4, x5, hp, hg => by
    obtain ⟨z4, z5, e⟩ := du0_ok f (x0 := x0) (x4 := x4) (x5 := x5) (x6 := x6) (x7 := x7) p1 p2 g1 g2 hp.1 (hg a List.mem_cons_self) l1 l2
    obtain ⟨y3, y4, y5, e2⟩ := du_loop f (x0 := x0) (x6 := x6) (x7 := x7) p1 p2 g1 g2 l1 l2 hs R (.va (.hdl h)) z4 z5 hp.2 fun m hm => hg m (List.mem_cons_of_mem _ hm)
    refine ⟨y3, y4, y5, ?_⟩
    rw [List.map_cons, List.any_cons]
    cases hb : bo1 tm bm a with
    | true =>
      rw [hb, if_pos rfl] at e
      rw [forR_rt (e1 := E9 x0 (.va (.lst (hs1.map .hdl))) (.va (.lst (hs2.map .hdl))) (.va (.hdl h)) x4 x5 x6 x7) rfl e]
      rfl
    | false =>
      rw [hb, if_neg (by decide)] at e
      rw [forR_nx (e1 := E9 x0 (.va (.lst (hs1.map .hdl))) (.va (.lst (hs2.map .hdl))) (.va (.hdl h)) x4 x5 x6 x7) rfl e, e2, Bool.false_or]
def signsOk (ss : List Str) : Prop := ss.Nodup ∧ (∀ s ∈ ss, s ∈ menu65) ∧ ss.length ≤ 3
theorem signsOk.u {ss : List Str} (h : signsOk ss) : ∀ s ∈ ss, s ∈ U65 := fun s hs => menu_sub s (h.2.1 s hs)
theorem rows_g {ss : List Str} (h : signsOk ss) : ∀ a ∈ (rowsP ss).map norm, PrG U65 a := fun a ha => by
  obtain ⟨m0, h1, rfl⟩ := List.mem_map.mp ha
  have := rowsP_g (U := U65) ss [[]] h.1 h.u (fun m hm => by simp at hm; subst hm; simp [ksP]) m0 h1
  exact norm_g this.2
theorem PrHs.kp {S T : Sto} (k : Kp S T) : ∀ {hs : List Nat} {ms : List PM}, PrHs S hs ms → PrHs T hs ms
  | [], [], _ => trivial
  | _ :: _, _ :: _, h => ⟨k.pr _ _ h.1, PrHs.kp k h.2⟩
theorem border_ok (f : Nat) {S : Sto} {ss : List Str} (hs : signsOk ss) {hs1 hs2 : List Nat} {tm bm : List PM} (p1 : PrHs S hs1 tm) (p2 : PrHs S hs2 bm) (g1 : ∀ m ∈ tm, PrG U65 m) (g2 : ∀ m ∈ bm, PrG U65 m) (l1 : tm.length ≤ 900) (l2 : bm.length ≤ 900) : ∃ T, calls (f + 8) .is_border S [.lst (ss.map .str), .lst (hs1.map .hdl), .lst (hs2.map .hdl)] = .ok (.bl (!((rowsP ss).map norm).any (bo1 tm bm))) T ∧ Ext S T := by
  obtain ⟨hh, T, e1, x1, hP⟩ := allp_ok un65 f S ss hs.1 hs.u (by have := hs.2.2; omega)
  obtain ⟨y3, y4, y5, eL⟩ := bd_loop (f + 5) (S := T) (x0 := .va (.lst (ss.map .str))) (x6 := .no) (p1.ext x1) (p2.ext x1) g1 g2 l1 l2 hh _ .no .no .no hP (rows_g hs)
  refine ⟨T, ?_, x1⟩
  rw [ev_is_border, fb_is_border]
  generalize ((rowsP ss).map norm).any (bo1 tm bm) = b at *
  generalize ss.map Dv.str = q at *
  generalize hs1.map Dv.hdl = q1 at *
  generalize hs2.map Dv.hdl = q2 at *
  have s1 : sFor (iSq (eCall (calls (f + 7) .all_promises) (aCons (eVar 0) aNil))) (gN 3) (fb_is_border_l0 (calls (f + 7))) [.va (.lst q), .va (.lst q1), .va (.lst q2), .no, .no, .no, .no] S = if b then .rt (.bl false) T else .nx (E8 (.va (.lst q)) (.va (.lst q1)) (.va (.lst q2)) y3 y4 y5 .no) T := by
    rw [ev_for, ev_isq, ev_call, ev_acons, ev_var]
    simp only [List.getElem?_cons_zero, kVar_va, bnd_ok, ev_a1, ev_anil, ev_a2, ev_kcall, e1, seqR_lst, kS_ok, ev_qfor]
    exact eL
  rw [ev_seq, s1]
  cases b <;> rfl
theorem due_ok (f : Nat) {S : Sto} {ss : List Str} (hs : signsOk ss) {hs1 hs2 : List Nat} {tm bm : List PM} (p1 : PrHs S hs1 tm) (p2 : PrHs S hs2 bm) (g1 : ∀ m ∈ tm, PrG U65 m) (g2 : ∀ m ∈ bm, PrG U65 m) (l1 : tm.length ≤ 900) (l2 : bm.length ≤ 900) : ∃ T, calls (f + 8) .l_due S [.lst (ss.map .str), .lst (hs1.map .hdl), .lst (hs2.map .hdl)] = .ok (.bl (!((rowsP ss).map norm).any (bo1 tm bm))) T ∧ Ext S T := by
  obtain ⟨hh, T, e1, x1, hP⟩ := allp_ok un65 f S ss hs.1 hs.u (by have := hs.2.2; omega)
  obtain ⟨y3, y4, y5, eL⟩ := du_loop (f + 5) (S := T) (x0 := .va (.lst (ss.map .str))) (x6 := .no) (x7 := .no) (p1.ext x1) (p2.ext x1) g1 g2 l1 l2 hh _ .no .no .no hP (rows_g hs)
  refine ⟨T, ?_, x1⟩
  rw [ev_l_due, fb_l_due]
  generalize ((rowsP ss).map norm).any (bo1 tm bm) = b at *
  generalize ss.map Dv.str = q at *
  generalize hs1.map Dv.hdl = q1 at *
  generalize hs2.map Dv.hdl = q2 at *
  have s1 : sFor (iSq (eCall (calls (f + 7) .all_promises) (aCons (eVar 0) aNil))) (gN 3) (fb_l_due_l0 (calls (f + 7))) [.va (.lst q), .va (.lst q1), .va (.lst q2), .no, .no, .no, .no, .no] S = if b then .rt (.bl false) T else .nx (E9 (.va (.lst q)) (.va (.lst q1)) (.va (.lst q2)) y3 y4 y5 .no .no) T := by
    rw [ev_for, ev_isq, ev_call, ev_acons, ev_var]
    simp only [List.getElem?_cons_zero, kVar_va, bnd_ok, ev_a1, ev_anil, ev_a2, ev_kcall, e1, seqR_lst, kS_ok, ev_qfor]
    exact eL
  rw [ev_seq, s1]
  cases b <;> rfl
end DL
namespace DL
open PySem L2
theorem flt_any {tt : DT} {te : DE} {j : Nat} {e : Env} {S : Sto} : ∀ ds : List Dv, (∀ d ∈ ds, ∃ b, tt (e.set j (.va d)) S = .ok b S) → (∀ d ∈ ds, ∃ y, te (e.set j (.va d)) S = .ok y S) → ∃ l, lcR (gN j) tt te e ds S = .ok l S ∧ l.length ≤ ds.length
  | [], _, _ => ⟨[], rfl, Nat.le_refl _⟩
  | d :: ds, h1, h2 => by
    obtain ⟨l, e1, e2⟩ := flt_any ds (fun x hx => h1 x (List.mem_cons_of_mem _ hx)) (fun x hx => h2 x (List.mem_cons_of_mem _ hx))
    obtain ⟨b, hb⟩ := h1 d List.mem_cons_self
    obtain ⟨y, hy⟩ := h2 d List.mem_cons_self
    cases b with
    | true => exact ⟨y :: l, by unfold lcR; simp only [ev_gN, hb, if_pos, hy, e1], by simp; exact e2⟩
    | false => exact ⟨l, by unfold lcR; simp only [ev_gN, hb, e1]; rfl, by simp; omega⟩
theorem flt_var {tt : DT} {j : Nat} {e : Env} {S : Sto} (hj : ∀ d, (e.set j (.va d))[j]? = some (.va d)) : ∀ ds : List Dv, (∀ d ∈ ds, ∃ b, tt (e.set j (.va d)) S = .ok b S) → ∃ l, lcR (gN j) tt (eVar j) e ds S = .ok l S ∧ l.length ≤ ds.length ∧ ∀ d ∈ l, d ∈ ds
  | [], _ => ⟨[], rfl, Nat.le_refl _, fun d hd => hd⟩
  | d :: ds, h1 => by
    obtain ⟨l, e1, e2, e3⟩ := flt_var hj ds (fun x hx => h1 x (List.mem_cons_of_mem _ hx))
    obtain ⟨b, hb⟩ := h1 d List.mem_cons_self
    have hy : eVar j (e.set j (.va d)) S = .ok d S := by rw [ev_var, hj]; rfl
    cases b with
    | true =>
      refine ⟨d :: l, by unfold lcR; simp only [ev_gN, hb, if_pos, hy, e1], by simp; exact e2, fun x hx => ?_⟩
      rcases List.mem_cons.mp hx with z | z
      · rw [z]; exact List.mem_cons_self
      · exact List.mem_cons_of_mem _ (e3 x z)
    | false => exact ⟨l, by unfold lcR; simp only [ev_gN, hb, e1]; rfl, by simp; omega, fun x hx => List.mem_cons_of_mem _ (e3 x hx)⟩
abbrev EO (x0 x1 x2 x3 x4 x5 x6 x7 : Sl) : Env := [x0, x1, x2, x3, x4, x5, x6, x7]
theorem out0_ok (f : Nat) {S : Sto} {x0 x1 x2 x6 x7 : Sl} {left acc : List Dv} (hl : AllP U65 S left) (hlen : left.length ≤ 900) (ha : acc.length < 1000) {h : Nat} {a : PM} (pa : PrH S h a) (ga : PrG U65 a) :
    ∃ acc', fb_l_outside_l0 (calls (f + 2)) (EO x0 x1 x2 (.va (.lst left)) (.ow acc) (.va (.hdl h)) x6 x7) S = .nx (EO x0 x1 x2 (.va (.lst left)) (.ow acc') (.va (.hdl h)) x6 x7) S ∧ (acc' = acc ∨ acc' = acc ++ [.hdl h]) := by
  obtain ⟨l, e1, e2⟩ := flt_any (tt := tAnd' (tVal (eEqO true "Promises" (calls (f + 2) .Promises_eq) (eVar 7) (eVar 5))) (tTru (eMeth "Promises" "at_most" [] (calls (f + 2) .Promises_at_most) (eVar 7) (aCons (eVar 5) aNil)))) (te := eC (.int 1)) (j := 7) (e := [x0, x1, x2, .va (.lst left), .ow acc, .va (.hdl h), x6, .no]) (S := S) left (fun d hd => by
    obtain ⟨k, m, rfl, pm, gm⟩ := hl d hd
    have q := keqO_ok true (f + 1) pm.v pa.v gm.nm ga.nm
    have t := atm_ev un65 f (e := [x0, x1, x2, .va (.lst left), .ow acc, .va (.hdl h), x6, .va (.hdl k)]) (i := 7) (j := 5) rfl rfl pm pa gm ga
    have q2 : eEqO true "Promises" (calls (f + 2) .Promises_eq) (eVar 7) (eVar 5) [x0, x1, x2, .va (.lst left), .ow acc, .va (.hdl h), x6, .va (.hdl k)] S = .ok (.bl (!hitP m a)) S := by
      unfold eEqO
      simp only [ev_var, List.getElem?_cons_succ, List.getElem?_cons_zero, kVar_va, bnd_ok, q]
      simp
    show ∃ b, tAnd' _ _ [x0, x1, x2, .va (.lst left), .ow acc, .va (.hdl h), x6, .va (.hdl k)] S = .ok b S
    rw [ev_tand, ev_tval, q2, bnd_ok, blD_bl, bnd_ok]
    cases hitP m a with
    | true => exact ⟨false, rfl⟩
    | false => exact ⟨leA m a, by rw [Bool.not_false, kAnd_t, ev_ttru, t, bnd_ok, ev_truR, tru_bl, kTru_some]⟩) (fun d _ => ⟨_, rfl⟩)
  have v := empty_ev (fi := iSq (eVar 3)) (vs := [7]) (e := EO x0 x1 x2 (.va (.lst left)) (.ow acc) (.va (.hdl h)) x6 x7) (seq_var rfl) e1 (by omega)
  rw [fb_l_outside_l0]
  cases hb : decide (l.length = 0) with
  | true =>
    rw [hb] at v
    refine ⟨acc ++ [.hdl h], ?_, .inr rfl⟩
    have hq := qOwnM_app S (EO x0 x1 x2 (.va (.lst left)) (.ow acc) (.va (.hdl h)) x6 x7) (.hdl h) acc 4 (line_lt _ (by omega))
    rw [ev_sif, v, kS_ok, qIf_t, ev_ownM]
    simp only [List.getElem?_cons_succ, List.getElem?_cons_zero, kOwnM_ow, ev_acons, ev_var, kVar_va, bnd_ok, ev_a1, ev_anil, ev_a2, kS_ok, hq]
    rfl
  | false =>
    rw [hb] at v
    exact ⟨acc, by rw [ev_sif, v, kS_ok, qIf_f, ev_snil], .inl rfl⟩
theorem out_loop (f : Nat) {S : Sto} {x0 x1 x2 x6 x7 : Sl} {left : List Dv} (hl : AllP U65 S left) (hlen : left.length ≤ 900) : ∀ (ds acc : List Dv) (x5 : Sl), AllP U65 S ds → AllP U65 S acc → acc.length + ds.length < 1000 →
    ∃ acc' y5, forR (gN 5) (fb_l_outside_l0 (calls (f + 2))) ds (EO x0 x1 x2 (.va (.lst left)) (.ow acc) x5 x6 x7) S = .nx (EO x0 x1 x2 (.va (.lst left)) (.ow acc') y5 x6 x7) S ∧ AllP U65 S acc' ∧ acc'.length ≤ acc.length + ds.length
  | [], acc, x5, _, ha, _ => ⟨acc, x5, rfl, ha, by simp⟩
  | d :: ds, acc, x5, hd, ha, hn => by
    simp only [List.length_cons] at hn
    obtain ⟨h, a, rfl, pa, ga⟩ := hd d List.mem_cons_self
    obtain ⟨acc1, e1, h1⟩ := out0_ok f (x0 := x0) (x1 := x1) (x2 := x2) (x6 := x6) (x7 := x7) hl hlen (acc := acc) (by omega) pa ga
    have h2 : AllP U65 S acc1 ∧ acc1.length ≤ acc.length + 1 := by
      rcases h1 with rfl | rfl
      · exact ⟨ha, by omega⟩
      · exact ⟨ha.app fun x hx => by simp at hx; subst hx; exact ⟨h, a, rfl, pa, ga⟩, by simp⟩
    obtain ⟨acc', y5, e2, h3, h4⟩ := out_loop f (x0 := x0) (x1 := x1) (x2 := x2) (x6 := x6) (x7 := x7) hl hlen ds acc1 (.va (.hdl h)) (fun x hx => hd x (List.mem_cons_of_mem _ hx)) h2.1 (by omega)
    exact ⟨acc', y5, by rw [forR_nx (e1 := EO x0 x1 x2 (.va (.lst left)) (.ow acc) (.va (.hdl h)) x6 x7) rfl e1, e2], h3, by simp; omega⟩
theorem outside_ok (f : Nat) {S : Sto} {ss : List Str} (hs : signsOk ss) {tops : List Dv} (ht : AllP U65 S tops) (hl : tops.length ≤ 900) : ∃ (l : List Dv) (T : Sto), calls (f + 8) .l_outside S [.lst (ss.map .str), .lst tops] = .ok (.lst l) T ∧ Ext S T ∧ AllP U65 T l ∧ l.length ≤ 125 := by
  obtain ⟨hh, T, e1, x1, hP⟩ := allp_ok un65 f S ss hs.1 hs.u (by have := hs.2.2; omega)
  have hA := hP.all (rows_g hs)
  have hhl : hh.length ≤ 125 := by
    have h1 := hP.len
    have h2 := rowsP_len ss [[]]
    have h5 : 5 ^ ss.length ≤ 5 ^ 3 := Nat.pow_le_pow_right (by omega) hs.2.2
    have h3 : (rowsP ss).length = 5 ^ ss.length := by rw [show rowsP ss = ss.foldl (fun R s => stepP s R) [[]] from rfl, h2]; simp
    rw [List.length_map, h3] at h1
    omega
  have htT := ht.ext x1
  obtain ⟨hs1, tm, rfl, p1, g1⟩ := htT.pms
  have hml := p1.len
  obtain ⟨left, e2, h2, h3⟩ := flt_var (tt := tVal (eBin eqE (eFrz (fLc (iSq (eVar 1)) (gN 6) (tTru (eMeth "Promises" "at_most" [] (calls (f + 7) .Promises_at_most) (eVar 5) (aCons (eVar 6) aNil))) (eC (.int 1)) [6])) (eFrz (fLst aNil)))) (j := 5) (e := [.va (.lst (ss.map .str)), .va (.lst (hs1.map .hdl)), .va (.lst (hh.map .hdl)), .no, .no, .no, .no, .no]) (S := T) (fun d => rfl) (hh.map .hdl) (fun d hd => by
    obtain ⟨k, m, rfl, pm, gm⟩ := hA d hd
    obtain ⟨c1, e3, n1⟩ := cnt_loop (f + 5) (S := T) (e := [.va (.lst (ss.map .str)), .va (.lst (hs1.map .hdl)), .va (.lst (hh.map .hdl)), .no, .no, .va (.hdl k), .no, .no]) (te := eC (.int 1)) (i := 5) (j := 6) gm pm (fun d => rfl) (fun d => rfl) (fun d => ⟨_, rfl⟩) hs1 tm p1 g1
    have n1' : c1.length ≤ 1000 := by
      rw [n1]
      refine Nat.le_trans (List.length_filter_le _ _) ?_
      rw [List.length_map] at hl
      omega
    exact ⟨_, empty_ev (fi := iSq (eVar 1)) (vs := [6]) (e := [.va (.lst (ss.map .str)), .va (.lst (hs1.map .hdl)), .va (.lst (hh.map .hdl)), .no, .no, .va (.hdl k), .no, .no]) (seq_var rfl) e3 n1'⟩)
  rw [List.length_map] at h2
  have hleft := hA.sub h3
  obtain ⟨acc, y5, e4, h4, h5⟩ := out_loop (f + 5) (x0 := .va (.lst (ss.map .str))) (x1 := .va (.lst (hs1.map .hdl))) (x2 := .va (.lst (hh.map .hdl))) (x6 := .no) (x7 := .no) hleft (by omega) left [] .no hleft (fun d hd => by simp at hd) (by simp; omega)
  refine ⟨acc, T, ?_, x1, h4, by simp at h5; omega⟩
  have hk := kLcEnd_ok T left (line_le _ (by omega))
  rw [ev_l_outside, fb_l_outside]
  generalize hh.map Dv.hdl = q2 at *
  generalize hs1.map Dv.hdl = q1 at *
  generalize ss.map Dv.str = q at *
  have s1 : sAsg 2 (eCall (calls (f + 7) .all_promises) (aCons (eVar 0) aNil)) [.va (.lst q), .va (.lst q1), .no, .no, .no, .no, .no, .no] S = .nx [.va (.lst q), .va (.lst q1), .va (.lst q2), .no, .no, .no, .no, .no] T := by
    simp [e1]
  have s2 : sAsg 3 (eFrz (fLc (iSq (eVar 2)) (gN 5) (tVal (eBin eqE (eFrz (fLc (iSq (eVar 1)) (gN 6) (tTru (eMeth "Promises" "at_most" [] (calls (f + 7) .Promises_at_most) (eVar 5) (aCons (eVar 6) aNil))) (eC (.int 1)) [6])) (eFrz (fLst aNil)))) (eVar 5) [5])) [.va (.lst q), .va (.lst q1), .va (.lst q2), .no, .no, .no, .no, .no] T = .nx [.va (.lst q), .va (.lst q1), .va (.lst q2), .va (.lst left), .no, .no, .no, .no] T := by
    rw [ev_asg, ev_frz, ev_fLc, seq_var (i := 2) (l := q2) rfl, bnd_ok, ev_kLc]
    show kS (qAsg 3) _ (bnd (kLcEnd (lcR _ _ _ [.va (.lst q), .va (.lst q1), .va (.lst q2), .no, .no, .no, .no, .no] q2 T)) kFrz) = _
    rw [e2, hk]
    rfl
  have s3 : sOwnN 4 (nL (fLst aNil)) [.va (.lst q), .va (.lst q1), .va (.lst q2), .va (.lst left), .no, .no, .no, .no] T = .nx (EO (.va (.lst q)) (.va (.lst q1)) (.va (.lst q2)) (.va (.lst left)) (.ow []) .no .no .no) T := rfl
  have s4 : sFor (iSq (eVar 3)) (gN 5) (fb_l_outside_l0 (calls (f + 7))) (EO (.va (.lst q)) (.va (.lst q1)) (.va (.lst q2)) (.va (.lst left)) (.ow []) .no .no .no) T = .nx (EO (.va (.lst q)) (.va (.lst q1)) (.va (.lst q2)) (.va (.lst left)) (.ow acc) y5 .no .no) T := for_abs (seq_var rfl) e4
  rw [ev_seq, s1, kSeq_nx, ev_seq, s2, kSeq_nx, ev_seq, s3, kSeq_nx, ev_seq, s4, kSeq_nx]
  rfl
end DL
namespace DL
open PySem L2
theorem copied_ok (f : Nat) {S : Sto} {h : Nat} {m : PM} (p : PrH S h m) (g : PrG U65 m) : calls (f + 7) .Promises_copied S [.hdl h] = .ok (.hdl S.length) (S ++ prO S.length (norm m)) := by
  have hd : ∀ T, asD (S ++ T) (.hdl (h + 1)) = some (encN m) := fun T => by
    have := (p.app T).2
    simp [asD, this]
  have ht : ∀ T, isiD (S ++ T) [.hdl (h + 1), .ty "dict"] = some (.bl true, S ++ T) := fun T => by
    have := (p.app T).2
    simp [isiD, tyD, kit_dict_dict, this]
  have hM := make_ok f hd ht (fun T => by simp) g.nm.nd (by have := g.le un65; omega) (sub_good un65 g.sub)
  have hf : kFld "Promises" "named" (.hdl h) S = .ok (.hdl (h + 1)) S := kfld_pr (by simp [insOf, p.1])
  have hd0 : dl_Promises_1 = [] := rfl
  rw [ev_Promises_copied, fb_Promises_copied]
  simp [eMkH, eFld, hf, hd0, hM]
theorem AllP.cut {S : Sto} {l : List Dv} (h : AllP U65 S l) (lo hi : Option Int) : AllP U65 S (cutG l lo hi) := h.sub fun d hd => (cut_sub l lo hi).subset hd
theorem cut_len (l : List Dv) (lo hi : Option Int) : (cutG l lo hi).length ≤ l.length := (cut_sub l lo hi).length_le
theorem AllP.one {S : Sto} {h : Nat} {m : PM} (p : PrH S h m) (g : PrG U65 m) : AllP U65 S [.hdl h] := fun d hd => by
  simp at hd; subst hd; exact ⟨h, m, rfl, p, g⟩
theorem add_ll {S : Sto} {a b : List Dv} (h : a.length + b.length ≤ 10000) : addD S (.lst a) (.lst b) = some (.lst (a ++ b), S) := op_add_l _ _ _ (line_le _ (by omega))
theorem spoilt_ok (f : Nat) {S : Sto} (hB : BagAt S 0) {ss : List Str} (hs : signsOk ss) {l : List Dv} (hl : AllP U65 S l) (hn : l.length ≤ 300) :
    ∃ (l' : List Dv) (T : Sto), calls (f + 8) .l_spoilt S [.hdl 0, .lst (ss.map .str), .lst l] = .ok (.lst l') T ∧ BagAt T 0 ∧ Kp S T ∧ AllP U65 T l' ∧ l'.length ≤ 700 := by
  obtain ⟨r3, o3, e3, r30, r31, ho3⟩ := take_ok (f + 6) hB (n := 3) (by omega) (by omega)
  have hB3 := hB.set ho3
  obtain ⟨r4, o4, e4, r40, r41, ho4⟩ := take_ok (f + 6) hB3 (n := (l.length : Int) + 1) (by omega) (by omega)
  have hB4 := hB3.set ho4
  have kp4 : Kp S ((S.set 0 o3).set 0 o4) := (Kp.bag hB o3).trans (Kp.bag hB3 o4)
  have hl4 := hl.kp kp4
  generalize S.set 0 o3 = S3 at *
  generalize S3.set 0 o4 = S4 at *
  generalize hq : ss.map Dv.str = q at *
  have s1 : sPar 3 4 (aCons (eCall (calls (f + 7) .l_take) (aCons (eVar 0) (aCons (eC (.int 3)) aNil))) (aCons (eCall (calls (f + 7) .l_take) (aCons (eVar 0) (aCons (eBin addD (eCB lenD (aCons (eVar 2) aNil)) (eC (.int 1))) aNil))) aNil)) [.va (.hdl 0), .va (.lst q), .va (.lst l), .no, .no, .no] S = .nx [.va (.hdl 0), .va (.lst q), .va (.lst l), .va (.int r3), .va (.int r4), .no] S4 := by
    simp [e3, e4]
  let E : Env := [.va (.hdl 0), .va (.lst q), .va (.lst l), .va (.int r3), .va (.int r4), .no]
  have hqe : eqD S4 (.lst q) (.lst []) = some (decide (q.length = 0)) := eq_nil S4 q
  have c1 := cut_len l none (some r4)
  have c2 := cut_len l (some (r4 + 1)) none
  have c3 := cut_len l (some r4) none
  have hcut1 : ∀ S, eCut (eVar 2) oNone (oSome (eVar 4)) E S = .ok (.lst (cutG l none (some r4))) S := fun S => by simp [E]
  have hcut2 : ∀ S, eCut (eVar 2) (oSome (eBin addD (eVar 4) (eC (.int 1)))) oNone E S = .ok (.lst (cutG l (some (r4 + 1)) none)) S := fun S => by simp [E]
  have hcut3 : ∀ S, eCut (eVar 2) (oSome (eVar 4)) oNone E S = .ok (.lst (cutG l (some r4) none)) S := fun S => by simp [E]
  rw [ev_l_spoilt, fb_l_spoilt, ev_seq, s1, kSeq_nx]
  have t2 : tOr' (tVal (eBin eqE (eVar 3) (eC (.int 0)))) (tVal (eBin eqE (eVar 1) (eFrz (fLst aNil)))) E S4 = .ok (decide (r3 = 0) || decide (q.length = 0)) S4 := by
    rw [ev_tor]
    by_cases h : r3 = 0
    · simp [E, h]
    · simp [E, h, hqe]
  cases b2 : (decide (r3 = 0) || decide (q.length = 0)) with
  | true =>
    rw [b2] at t2
    refine ⟨cutG l none (some r4) ++ cutG l (some (r4 + 1)) none, S4, ?_, hB4, kp4, (hl4.cut _ _).app (hl4.cut _ _), by rw [List.length_append]; omega⟩
    have ha := add_ll (S := S4) (a := cutG l none (some r4)) (b := cutG l (some (r4 + 1)) none) (by omega)
    show kRun (sSeq _ _ E S4) = _
    rw [ev_seq, ev_sif, t2, kS_ok, qIf_t, ev_ret, ev_bin, hcut1, bnd_ok, ev_b1, hcut2, bnd_ok, ev_b2, ha]
    rfl
  | false =>
    rw [b2] at t2
    have hss : ss ≠ [] := fun e => by
      rw [Bool.or_eq_false_iff] at b2
      have := b2.2
      rw [← hq, e] at this
      simp at this
    have s2 : sIf (tOr' (tVal (eBin eqE (eVar 3) (eC (.int 0)))) (tVal (eBin eqE (eVar 1) (eFrz (fLst aNil))))) (sRet (eBin addD (eCut (eVar 2) oNone (oSome (eVar 4))) (eCut (eVar 2) (oSome (eBin addD (eVar 4) (eC (.int 1)))) oNone))) sNil E S4 = .nx E S4 := by
      rw [ev_sif, t2, kS_ok, qIf_f, ev_snil]
    have t3 : tOr' (tVal (eBin eqE (eVar 3) (eC (.int 1)))) (tVal (eBin eqE (eVar 4) (eCB lenD (aCons (eVar 2) aNil)))) E S4 = .ok (decide (r3 = 1) || decide (r4 = (l.length : Int))) S4 := by
      rw [ev_tor]
      by_cases h : r3 = 1
      · simp [E, h]
      · simp [E, h]
    show ∃ l' T, kRun (sSeq _ _ E S4) = _ ∧ _
    rw [ev_seq, s2, kSeq_nx, ev_seq]
    cases b3 : (decide (r3 = 1) || decide (r4 = (l.length : Int))) with
    | true =>
      rw [b3] at t3
      obtain ⟨r5, o5, e5, r50, r51, ho5⟩ := take_ok (f + 6) hB4 (n := 2) (by omega) (by omega)
      have hB5 := hB4.set ho5
      let more : List Str := ss ++ List.replicate r5.toNat ("further" : Str)
      obtain ⟨h, T, m, e6, hB6, kp6, p6, g6⟩ := some_ok f hB5 more (fun s hs' => by
        rcases List.mem_append.mp hs' with z | z
        · exact hs.u s z
        · rw [(List.mem_replicate.mp z).2]; decide +kernel) (by simp only [more, List.length_append, List.length_replicate]; have := hs.2.2; omega)
      have kp := (kp4.trans (Kp.bag hB4 o5)).trans kp6
      have hlT := hl.kp kp
      refine ⟨cutG l none (some r4) ++ [.hdl h] ++ cutG l (some r4) none, T, ?_, hB6, kp, ((hlT.cut _ _).app (AllP.one p6 g6)).app (hlT.cut _ _), by rw [List.length_append, List.length_append, List.length_singleton]; omega⟩
      have hrep : repD (S4.set 0 o5) (.lst [.str "further"]) (.int r5) = some (.lst (List.replicate r5.toNat (.str "further")), S4.set 0 o5) := by
        have h1 : asH (S4.set 0 o5) (.lst [.str "further"]) = some [.str "further"] := rfl
        have h2 : -(2 ^ 63) ≤ r5 ∧ r5 < 2 ^ 63 ∧ ([Dv.str "further"] : List Dv).length * r5.toNat ≤ sizeLine := ⟨by omega, by omega, line_le _ (by simp; omega)⟩
        simp only [repD, h1, Option.bind_some, if_pos h2]
        congr 2
        rw [show (List.replicate r5.toNat [Dv.str "further"]).flatten = List.replicate r5.toNat (Dv.str "further") from by simp]
      have hmore : addD (S4.set 0 o5) (.lst q) (.lst (List.replicate r5.toNat (.str "further"))) = some (.lst (more.map .str), S4.set 0 o5) := by
        rw [add_ll (by rw [← hq, List.length_map, List.length_replicate]; have := hs.2.2; omega)]
        simp [more, ← hq]
      have a1 := add_ll (S := T) (a := cutG l none (some r4)) (b := [.hdl h]) (by rw [List.length_singleton]; omega)
      have a2 := add_ll (S := T) (a := cutG l none (some r4) ++ [.hdl h]) (b := cutG l (some r4) none) (by rw [List.length_append, List.length_singleton]; omega)
      have x1 : eBin repD (eFrz (fLst (aCons (eC (.str "further")) aNil))) (eCall (calls (f + 7) .l_take) (aCons (eVar 0) (aCons (eC (.int 2)) aNil))) E S4 = .ok (.lst (List.replicate r5.toNat (.str "further"))) (S4.set 0 o5) := by
        generalize List.replicate r5.toNat (Dv.str "further") = rr at *
        simp [E, e5, hrep]
      have hmore' : addD (S4.set 0 o5) (.lst q) (.lst (List.replicate r5.toNat (.str "further"))) = some (.lst (more.map .str), S4.set 0 o5) := hmore
      have x2 : eCall (calls (f + 7) .l_some) (aCons (eVar 0) (aCons (eBin addD (eVar 1) (eBin repD (eFrz (fLst (aCons (eC (.str "further")) aNil))) (eCall (calls (f + 7) .l_take) (aCons (eVar 0) (aCons (eC (.int 2)) aNil))))) aNil)) E S4 = .ok (.hdl h) T := by
        have v0 : eVar 0 E S4 = .ok (.hdl 0) S4 := rfl
        have v1 : eVar 1 E S4 = .ok (.lst q) S4 := rfl
        rw [ev_call, ev_acons, v0, bnd_ok, ev_a1, ev_acons, ev_bin, v1, bnd_ok, ev_b1, x1, bnd_ok, ev_b2, hmore', ofO_some, bnd_ok, ev_a1, ev_anil, bnd_ok, ev_a2, bnd_ok, ev_a2, bnd_ok, ev_kcall, e6]
      rw [ev_sif, t3, kS_ok, qIf_t, ev_ret, ev_bin, ev_bin, hcut1, bnd_ok, ev_b1, ev_frz, ev_flst, ev_acons, x2, bnd_ok, ev_a1, ev_anil, bnd_ok, ev_a2, bnd_ok, kLst1, bnd_ok, ev_kfrz, bnd_ok, ev_b2, a1, ofO_some, bnd_ok, ev_b1, hcut3, bnd_ok, ev_b2, a2]
      rfl
    | false =>
      rw [b3] at t3
      rw [ev_sif, t3, kS_ok, qIf_f, ev_snil, kSeq_nx]
      have hr4 : r4 < (l.length : Int) := by
        rw [Bool.or_eq_false_iff] at b3
        have := b3.2
        simp at this
        omega
      have hr4n : r4.toNat < l.length := by omega
      obtain ⟨h, m, hd, ph, gh⟩ := hl4 l[r4.toNat] (List.getElem_mem hr4n)
      have hix : ixD S4 (.lst l) (.int r4) = some (.hdl h, S4) := by
        have : atI l r4 = some (.hdl h) := by
          unfold atI
          rw [ixN_ok r40 hr4, Option.bind_some, List.getElem?_eq_getElem hr4n, hd]
        rw [ix_lst, this, kIx_some]
      have hcp := copied_ok f ph gh
      have pc := prH_new S4 (norm m)
      have gc : PrG U65 (norm m) := norm_g gh.sub
      have xB : Ext S4 (S4 ++ prO S4.length (norm m)) := ⟨_, rfl⟩
      have hB5 := bag_ext hB4 xB
      have kp5 := kp4.trans (Kp.ext xB)
      have hSl : S4.length ≤ S4.length := Nat.le_refl _
      have hfresh : ∀ k mm, PrH S4 k mm → k ≠ S4.length := fun k mm hk => by have := hk.lt; omega
      have hkp45 := Kp.ext xB
      generalize hS5 : S4 ++ prO S4.length (norm m) = S5 at *
      have hkl : ∀ k mm, PrH S k mm → k + 1 < S4.length := fun k mm hk => (kp4.pr k mm hk).lt
      generalize hc : S4.length = c at *
      obtain ⟨p, o6, e6, ho6⟩ := one_pwt (f + 5) hB5
      have hB6 := hB5.set ho6
      have pc6 := pc.bag hB5 o6
      obtain ⟨sg, o7, e7, ho7, hsg⟩ := one_sg (f + 5) hB6 hss (by have := hs.2.2; omega)
      have hB7 := hB6.set ho7
      have pc7 := pc6.bag hB6 o7
      have kp7 : Kp S5 ((S5.set 0 o6).set 0 o7) := (Kp.bag hB5 o6).trans (Kp.bag hB6 o7)
      rw [hq] at e7
      generalize S5.set 0 o6 = S6 at *
      generalize S6.set 0 o7 = S7 at *
      let E5 : Env := [.va (.hdl 0), .va (.lst q), .va (.lst l), .va (.int r3), .va (.int r4), .va (.hdl c)]
      obtain ⟨V, eV, pV, oth, lenV⟩ := set_ex (f + 2) pc7 (by have := gc.le un65; omega) (un65.good sg (hs.u sg hsg)) p E5
      have hBV := bag_other hB7 pc7 oth
      have gV := setP_g gc (hs.u sg hsg) p
      have kpV : Kp S V := ⟨fun k mm hk => by
        have h1 := hkl k mm hk
        exact pc7.other (kp7.pr _ _ (kp5.pr _ _ hk)) (by omega) oth, by
        have := kp5.le
        have := kp7.le
        omega⟩
      have hlV := hl.kp kpV
      refine ⟨cutG l none (some r4) ++ [.hdl c] ++ cutG l (some (r4 + 1)) none, V, ?_, hBV, kpV, ((hlV.cut _ _).app (AllP.one pV gV)).app (hlV.cut _ _), by rw [List.length_append, List.length_append, List.length_singleton]; omega⟩
      have a1 := add_ll (S := V) (a := cutG l none (some r4)) (b := [.hdl c]) (by rw [List.length_singleton]; omega)
      have a2 := add_ll (S := V) (a := cutG l none (some r4) ++ [.hdl c]) (b := cutG l (some (r4 + 1)) none) (by rw [List.length_append, List.length_singleton]; omega)
      have u1 : sAsg 5 (eMeth "Promises" "copied" [] (calls (f + 7) .Promises_copied) (eBin ixD (eVar 2) (eVar 4)) aNil) E S4 = .nx E5 S5 := by
        have v2 : eVar 2 E S4 = .ok (.lst l) S4 := rfl
        have v4 : eVar 4 E S4 = .ok (.int r4) S4 := rfl
        unfold eMeth
        rw [ev_asg, ev_bin, v2, bnd_ok, ev_b1, v4, bnd_ok, ev_b2, hix, ofO_some, bnd_ok, kmeth_pr _ "copied" (by decide +kernel) ph.v, ev_anil, bnd_ok]
        show kS (qAsg 5) E (calls (f + 7) .Promises_copied S4 [.hdl h]) = _
        rw [hcp]
        rfl
      have v5 : ∀ S, eVar 5 E5 S = .ok (.hdl c) S := fun S => rfl
      have u2 : sPutO "Promises" (calls (f + 7) .Promises_setitem) (eVar 5) (eCall (calls (f + 7) .l_one) (aCons (eVar 0) (aCons (eVar 1) aNil))) (eCall (calls (f + 7) .l_one) (aCons (eVar 0) (aCons (eC c_POWERS) aNil))) E5 S5 = .nx E5 V := by
        refine put_ev (S1 := S6) (v := .str (pwS p)) ?_ (v5 S6) (S3 := S7) (i := .str sg) ?_ eV
        · show bnd (bnd (bnd (eC c_POWERS E5 S5) (kA1 aNil E5)) (kA2 (.hdl 0))) (kCall (calls (f + 7) .l_one)) = _
          exact e6
        · show bnd (bnd (bnd (eVar 1 E5 S6) (kA1 aNil E5)) (kA2 (.hdl 0))) (kCall (calls (f + 7) .l_one)) = _
          exact e7
      have hc1 : ∀ S, eCut (eVar 2) oNone (oSome (eVar 4)) E5 S = .ok (.lst (cutG l none (some r4))) S := fun S => by simp [E5]
      have hc2 : ∀ S, eCut (eVar 2) (oSome (eBin addD (eVar 4) (eC (.int 1)))) oNone E5 S = .ok (.lst (cutG l (some (r4 + 1)) none)) S := fun S => by simp [E5]
      rw [ev_seq, u1, kSeq_nx, ev_seq, u2, kSeq_nx, ev_ret, ev_bin, ev_bin, hc1, bnd_ok, ev_b1, ev_frz, ev_flst, ev_acons, v5, bnd_ok, ev_a1, ev_anil, bnd_ok, ev_a2, bnd_ok, kLst1, bnd_ok, ev_kfrz, bnd_ok, ev_b2, a1, ofO_some, bnd_ok, ev_b1, hc2, bnd_ok, ev_b2, a2]
      rfl
end DL
namespace DL
open PySem L2
abbrev EG (x1 x2 x3 x4 x5 x6 x7 : Sl) : Env := [.va (.hdl 0), x1, x2, x3, x4, x5, x6, x7]
theorem pws_loop (f : Nat) {S : Sto} {e : Env} (he : ∀ d, (e.set 7 (.va d))[7]? = some (.va d)) : ∀ (hs : List Nat) (ms : List PM), PrHs S hs ms → (∀ m ∈ ms, PrG U65 m) → lcR (gN 7) tTrue (eMeth "Promises" "powers" [] (calls (f + 1) .Promises_powers) (eVar 7) aNil) e (hs.map .hdl) S = .ok ((ms.map norm).map dicD) S
  | [], [], _, _ => rfl
  | h :: hs, m :: ms, hp, hm => by
    have hg := hm m List.mem_cons_self
    have hv := hp.1.v
    have hw := powers_ok f hv hg.nm (by have := hg.le un65; omega)
    have ih := pws_loop f he hs ms hp.2 fun x hx => hm x (List.mem_cons_of_mem _ hx)
    have h3 : eMeth "Promises" "powers" [] (calls (f + 1) .Promises_powers) (eVar 7) aNil (e.set 7 (.va (.hdl h))) S = .ok (dicD (norm m)) S := by
      unfold eMeth
      rw [ev_var, he, kVar_va, bnd_ok, kmeth_pr _ "powers" (by decide +kernel) hv, ev_anil, bnd_ok]
      exact hw
    have h4 : tTrue (e.set 7 (.va (.hdl h))) S = .ok true S := rfl
    rw [List.map_cons]
    unfold lcR
    simp only [ev_gN, h4, if_pos, h3, ih]
    rfl
theorem pows_ev (f : Nat) {S : Sto} {E : Env} {i : Nat} {hs : List Nat} {ms : List PM} (hi : E[i]? = some (.va (.lst (hs.map .hdl)))) (h7 : ∀ d, ((wipeE E [7]).set 7 (.va d))[7]? = some (.va d)) (hp : PrHs S hs ms) (hg : ∀ m ∈ ms, PrG U65 m) (hl : ms.length ≤ 900) : eFrz (fLc (iSq (eVar i)) (gN 7) tTrue (eMeth "Promises" "powers" [] (calls (f + 1) .Promises_powers) (eVar 7) aNil) [7]) E S = .ok (.lst ((ms.map norm).map dicD)) S := by
  have hL := pws_loop f h7 hs ms hp hg
  have hk := kLcEnd_ok S ((ms.map norm).map dicD) (line_le _ (by rw [List.length_map, List.length_map]; omega))
  rw [ev_frz, ev_fLc, seq_var hi, bnd_ok, ev_kLc, hL, hk, bnd_ok, ev_kfrz]
theorem words_ev (f : Nat) {S : Sto} {E : Env} {hs1 hs2 : List Nat} {tm bm : List PM} (h2 : E[2]? = some (.va (.lst (hs1.map .hdl)))) (h3 : E[3]? = some (.va (.lst (hs2.map .hdl)))) (h7 : ∀ d, ((wipeE E [7]).set 7 (.va d))[7]? = some (.va d)) (p1 : PrHs S hs1 tm) (p2 : PrHs S hs2 bm) (g1 : ∀ m ∈ tm, PrG U65 m) (g2 : ∀ m ∈ bm, PrG U65 m) (l1 : tm.length ≤ 900) (l2 : bm.length ≤ 900) :
    eFrz (fLst (aCons (eFrz (fLc (iSq (eVar 2)) (gN 7) tTrue (eMeth "Promises" "powers" [] (calls (f + 1) .Promises_powers) (eVar 7) aNil) [7])) (aCons (eFrz (fLc (iSq (eVar 3)) (gN 7) tTrue (eMeth "Promises" "powers" [] (calls (f + 1) .Promises_powers) (eVar 7) aNil) [7])) aNil))) E S = .ok (.lst [.lst ((tm.map norm).map dicD), .lst ((bm.map norm).map dicD)]) S := by
  have e1 := pows_ev f h2 h7 p1 g1 l1
  have e2 := pows_ev f h3 h7 p2 g2 l2
  rw [ev_frz, ev_flst, ev_acons, e1, bnd_ok, ev_a1, ev_acons, e2, bnd_ok, ev_a1, ev_anil, bnd_ok, ev_a2, bnd_ok, ev_a2, bnd_ok, kLst2, bnd_ok, ev_kfrz]
theorem words_eq (S : Sto) (tm bm : List PM) : eqVD S (.lst [.lst ((tm.map norm).map dicD), .lst ((bm.map norm).map dicD)]) (.lst [.lst ((tm.map norm).map dicD), .lst ((bm.map norm).map dicD)]) = some (.bl true, S) := by
  have h1 := beq_all (l := tm.map norm) (n := 36) fun m hm => by obtain ⟨r, _, rfl⟩ := List.mem_map.mp hm; exact (norm_nm _).nd
  have h2 := beq_all (l := bm.map norm) (n := 36) fun m hm => by obtain ⟨r, _, rfl⟩ := List.mem_map.mp hm; exact (norm_nm _).nd
  have : beqV 40 (.lst [.lst ((tm.map norm).map dicD), .lst ((bm.map norm).map dicD)]) (.lst [.lst ((tm.map norm).map dicD), .lst ((bm.map norm).map dicD)]) = true := by
    simp only [beqV, List.zip_cons_cons, List.zip_nil_right, List.all_cons, List.all_nil, Bool.and_eq_true, decide_eq_true_eq]
    exact ⟨trivial, ⟨trivial, h1⟩, ⟨trivial, h2⟩, trivial⟩
  unfold eqVD
  simp only [this, if_pos]
theorem menu_lay : ∀ s ∈ menu65, (PyData.str s).canLay0 = true := by decide +kernel
theorem cut_take (l : List Str) (r : Int) (h : 0 ≤ r) : (cutG l none (some r)).length ≤ r.toNat := by
  unfold cutG
  rw [List.length_take]
  refine Nat.le_trans (Nat.min_le_left _ _) ?_
  have : HT.sIx l.length l.length (some r) ≤ r.toNat := by
    unfold HT.sIx
    simp only
    split <;> first | omega | (split <;> omega) | skip
  omega
def manyL : List Int := [0, 1, 2, 2, 2, 3]
theorem go_s1 (f : Nat) {S : Sto} (hB : BagAt S 0) : ∃ (ss : List Str) (o : Ob), sAsg 1 (eCut (eCall (calls (f + 8) .l_mixed) (aCons (eVar 0) (aCons (eFrz (fLst (aCons (eC (.str "f")) (aCons (eC (.str "add")) (aCons (eC (.str "split2")) (aCons (eC (.str "g")) aNil)))))) aNil))) oNone (oSome (eBin ixD (eFrz (fLst (aCons (eC (.int 0)) (aCons (eC (.int 1)) (aCons (eC (.int 2)) (aCons (eC (.int 2)) (aCons (eC (.int 2)) (aCons (eC (.int 3)) aNil)))))))) (eCall (calls (f + 8) .l_take) (aCons (eVar 0) (aCons (eC (.int 6)) aNil)))))) (EG .no .no .no .no .no .no .no) S = .nx (EG (.va (.lst (ss.map .str))) .no .no .no .no .no .no) (S.set 0 o) ∧ BagOk o ∧ signsOk ss := by
  obtain ⟨ks, o1, e1, ho1, hk1⟩ := mixed_ok (f + 6) hB menu65 (by decide)
  have hB1 := hB.set ho1
  obtain ⟨r2, o2, e2, r20, r21, ho2⟩ := take_ok (f + 7) hB1 (n := 6) (by omega) (by omega)
  rw [List.set_set] at e2
  have hr : r2.toNat < manyL.length := by show r2.toNat < 6; omega
  obtain ⟨n, hn⟩ : ∃ n, manyL[r2.toNat] = n := ⟨_, rfl⟩
  have hn3 : 0 ≤ n ∧ n ≤ 3 := by
    rw [← hn]
    have : ∀ x ∈ manyL, 0 ≤ x ∧ x ≤ 3 := by decide
    exact this _ (List.getElem_mem hr)
  have hsub : (cutG ks none (some n)).Sublist ks := cut_sub _ _ _
  have hct := cut_take ks n hn3.1
  refine ⟨cutG ks none (some n), o2, ?_, ho2, hsub.nodup (hk1.nodup_iff.mpr menu_nd), fun s hs => hk1.mem_iff.mp (hsub.subset hs), by omega⟩
  have hcut : cutG (ks.map Dv.str) none (some n) = (cutG ks none (some n)).map Dv.str := cutG_map _ _ _ _
  have hix : ixD (S.set 0 o2) (.lst (manyL.map .int)) (.int r2) = some (.int n, S.set 0 o2) := by
    have : atI (manyL.map Dv.int) r2 = some (.int n) := by
      unfold atI
      rw [ixN_ok r20 (by show r2 < 6; exact r21), Option.bind_some, List.getElem?_map, List.getElem?_eq_getElem hr, hn]
      rfl
    rw [ix_lst, this, kIx_some]
  have m1 : eFrz (fLst (aCons (eC (.str "f")) (aCons (eC (.str "add")) (aCons (eC (.str "split2")) (aCons (eC (.str "g")) aNil))))) (EG .no .no .no .no .no .no .no) S = .ok (.lst (menu65.map .str)) S := rfl
  have m2 : ∀ S, eFrz (fLst (aCons (eC (.int 0)) (aCons (eC (.int 1)) (aCons (eC (.int 2)) (aCons (eC (.int 2)) (aCons (eC (.int 2)) (aCons (eC (.int 3)) aNil))))))) (EG .no .no .no .no .no .no .no) S = .ok (.lst (manyL.map .int)) S := fun S => rfl
  generalize menu65.map Dv.str = q0 at *
  generalize manyL.map Dv.int = q3 at *
  generalize (cutG ks none (some n)).map Dv.str = q2 at *
  generalize ks.map Dv.str = q1 at *
  have v0 : ∀ S, eVar 0 (EG .no .no .no .no .no .no .no) S = .ok (.hdl 0) S := fun S => rfl
  rw [ev_asg, ev_cut, ev_call, ev_acons, v0, bnd_ok, ev_a1, ev_acons, m1, bnd_ok, ev_a1, ev_anil, bnd_ok, ev_a2, bnd_ok, ev_a2, bnd_ok, ev_kcall, e1, bnd_ok, ev_cut1, ev_onone, bnd_ok, ev_cut2, ev_osome, ev_bin, m2, bnd_ok, ev_b1, ev_call, ev_acons, v0, bnd_ok, ev_a1, ev_acons, ev_c, bnd_ok, ev_a1, ev_anil, bnd_ok, ev_a2, bnd_ok, ev_a2, bnd_ok, ev_kcall, e2, bnd_ok, ev_b2, hix, ofO_some, bnd_ok, oInt_int, bnd_ok, ev_cut3, cut_lst, hcut]
  rfl
theorem draws_ev (f : Nat) {S : Sto} (hB : BagAt S 0) {ss : List Str} (hs : signsOk ss) {E : Env} (n : Int) (hn : 0 < n ∧ n < 100) (h0 : E[0]? = some (.va (.hdl 0))) (h60 : ∀ d, ((wipeE E [6]).set 6 (.va d))[0]? = some (.va (.hdl 0))) (h61 : ∀ d, ((wipeE E [6]).set 6 (.va d))[1]? = some (.va (.lst (ss.map .str)))) :
    ∃ (l : List Dv) (T : Sto), eFrz (fLc (iRng1' (aCons (eCall (calls (f + 8) .l_take) (aCons (eVar 0) (aCons (eC (.int n)) aNil))) aNil)) (gN 6) tTrue (eCall (calls (f + 8) .l_some) (aCons (eVar 0) (aCons (eVar 1) aNil))) [6]) E S = .ok (.lst l) T ∧ BagAt T 0 ∧ Kp S T ∧ AllP U65 T l ∧ l.length ≤ 100 := by
  obtain ⟨r, o, e1, r0, r1, ho⟩ := take_ok (f + 7) hB hn.1 (by omega)
  obtain ⟨l, T, e2, hBT, k, a, len⟩ := somes_loop (f + 1) hs.u (by have := hs.2.2; omega) h60 h61 (rngD 0 r.toNat) (S.set 0 o) (hB.set ho)
  have hr := rngR1_ok (S.set 0 o) r ⟨by omega, by omega⟩
  rw [rngD_len] at len
  refine ⟨l, T, ?_, hBT, (Kp.bag hB o).trans k, a, by omega⟩
  have hk := kLcEnd_ok T l (line_le _ (by omega))
  generalize rngD 0 r.toNat = rg at *
  rw [ev_frz, ev_fLc, ev_rng1, ev_acons, ev_call, ev_acons, ev_var, h0, kVar_va, bnd_ok, ev_a1, ev_acons, ev_c, bnd_ok, ev_a1, ev_anil, bnd_ok, ev_a2, bnd_ok, ev_a2, bnd_ok, ev_kcall, e1, bnd_ok, ev_a1, ev_anil, bnd_ok, ev_a2, bnd_ok, hr, bnd_ok, ev_kLc]
  show bnd (kLcEnd (lcR (gN 6) tTrue (eCall (calls (f + 1 + 7) .l_some) (aCons (eVar 0) (aCons (eVar 1) aNil))) (wipeE E [6]) rg (S.set 0 o))) kFrz = _
  rw [e2, hk]
  rfl
theorem eq0_ev (f : Nat) {S : Sto} (hB : BagAt S 0) {E : Env} (n : Int) (hn : 0 < n ∧ n < 100) (h0 : E[0]? = some (.va (.hdl 0))) : ∃ (b : Bool) (o : Ob), tVal (eBin eqE (eCall (calls (f + 8) .l_take) (aCons (eVar 0) (aCons (eC (.int n)) aNil))) (eC (.int 0))) E S = .ok b (S.set 0 o) ∧ BagOk o := by
  obtain ⟨r, o, e1, r0, r1, ho⟩ := take_ok (f + 7) hB hn.1 (by omega)
  refine ⟨decide (r = 0), o, ?_, ho⟩
  simp [h0, e1]
theorem go_ok (f : Nat) {S : Sto} (hB : BagAt S 0) : ∃ T, calls (f + 9) .l_go S [.hdl 0] = .ok (.bl true) T ∧ BagAt T 0 := by
  obtain ⟨ss, o1, s1, ho1, hs⟩ := go_s1 f hB
  have hB1 := hB.set ho1
  generalize S.set 0 o1 = S1 at *
  obtain ⟨l2, S2, e2, hB2, k2, a2, n2⟩ := draws_ev f hB1 hs (E := EG (.va (.lst (ss.map .str))) .no .no .no .no .no .no) 4 (by omega) rfl (fun d => rfl) (fun d => rfl)
  have s2 : sAsg 2 (eFrz (fLc (iRng1' (aCons (eCall (calls (f + 8) .l_take) (aCons (eVar 0) (aCons (eC (.int 4)) aNil))) aNil)) (gN 6) tTrue (eCall (calls (f + 8) .l_some) (aCons (eVar 0) (aCons (eVar 1) aNil))) [6])) (EG (.va (.lst (ss.map .str))) .no .no .no .no .no .no) S1 = .nx (EG (.va (.lst (ss.map .str))) (.va (.lst l2)) .no .no .no .no .no) S2 := by
    rw [ev_asg, e2]
    rfl
  obtain ⟨l3, S3, e3, x3, a3, n3⟩ := outside_ok f hs a2 (by omega)
  have hB3 := bag_ext hB2 x3
  have a23 := a2.ext x3
  have s3 : sAsg 3 (eCall (calls (f + 8) .l_outside) (aCons (eVar 1) (aCons (eVar 2) aNil))) (EG (.va (.lst (ss.map .str))) (.va (.lst l2)) .no .no .no .no .no) S2 = .nx (EG (.va (.lst (ss.map .str))) (.va (.lst l2)) (.va (.lst l3)) .no .no .no .no) S3 := by
    generalize ss.map Dv.str = q at *
    simp [e3]
  -- perhaps others below
  have h4 : ∃ (l3' : List Dv) (S4 : Sto), sIf (tVal (eBin eqE (eCall (calls (f + 8) .l_take) (aCons (eVar 0) (aCons (eC (.int 5)) aNil))) (eC (.int 0)))) (sAsg 3 (eFrz (fLc (iRng1' (aCons (eCall (calls (f + 8) .l_take) (aCons (eVar 0) (aCons (eC (.int 3)) aNil))) aNil)) (gN 6) tTrue (eCall (calls (f + 8) .l_some) (aCons (eVar 0) (aCons (eVar 1) aNil))) [6]))) sNil (EG (.va (.lst (ss.map .str))) (.va (.lst l2)) (.va (.lst l3)) .no .no .no .no) S3 = .nx (EG (.va (.lst (ss.map .str))) (.va (.lst l2)) (.va (.lst l3')) .no .no .no .no) S4 ∧ BagAt S4 0 ∧ AllP U65 S4 l2 ∧ AllP U65 S4 l3' ∧ l3'.length ≤ 125 := by
    obtain ⟨b, o, et, ho⟩ := eq0_ev f hB3 (E := EG (.va (.lst (ss.map .str))) (.va (.lst l2)) (.va (.lst l3)) .no .no .no .no) 5 (by omega) rfl
    have kb := Kp.bag hB3 o
    have hBb := hB3.set ho
    cases b with
    | false => exact ⟨l3, S3.set 0 o, by rw [ev_sif, et, kS_ok, qIf_f, ev_snil], hBb, a23.kp kb, a3.kp kb, n3⟩
    | true =>
      obtain ⟨l, T, e, hBT, k, a, n⟩ := draws_ev f hBb hs (E := EG (.va (.lst (ss.map .str))) (.va (.lst l2)) (.va (.lst l3)) .no .no .no .no) 3 (by omega) rfl (fun d => rfl) (fun d => rfl)
      refine ⟨l, T, ?_, hBT, a23.kp (kb.trans k), a, by omega⟩
      rw [ev_sif, et, kS_ok, qIf_t, ev_asg, e]
      rfl
  obtain ⟨l3', S4, s4, hB4, b2, b3, n3'⟩ := h4
  -- perhaps one of them spoilt
  have h5 : ∃ (m2 m3 : List Dv) (S5 : Sto), sIf (tVal (eBin eqE (eCall (calls (f + 8) .l_take) (aCons (eVar 0) (aCons (eC (.int 2)) aNil))) (eC (.int 0)))) (sIf (tVal (eBin eqE (eCall (calls (f + 8) .l_take) (aCons (eVar 0) (aCons (eC (.int 2)) aNil))) (eC (.int 0)))) (sAsg 2 (eCall (calls (f + 8) .l_spoilt) (aCons (eVar 0) (aCons (eVar 1) (aCons (eVar 2) aNil))))) (sAsg 3 (eCall (calls (f + 8) .l_spoilt) (aCons (eVar 0) (aCons (eVar 1) (aCons (eVar 3) aNil)))))) sNil (EG (.va (.lst (ss.map .str))) (.va (.lst l2)) (.va (.lst l3')) .no .no .no .no) S4 = .nx (EG (.va (.lst (ss.map .str))) (.va (.lst m2)) (.va (.lst m3)) .no .no .no .no) S5 ∧ BagAt S5 0 ∧ AllP U65 S5 m2 ∧ AllP U65 S5 m3 ∧ m2.length ≤ 700 ∧ m3.length ≤ 700 := by
    obtain ⟨b, o, et, ho⟩ := eq0_ev f hB4 (E := EG (.va (.lst (ss.map .str))) (.va (.lst l2)) (.va (.lst l3')) .no .no .no .no) 2 (by omega) rfl
    have kb := Kp.bag hB4 o
    have hBb := hB4.set ho
    cases b with
    | false => exact ⟨l2, l3', S4.set 0 o, by rw [ev_sif, et, kS_ok, qIf_f, ev_snil], hBb, b2.kp kb, b3.kp kb, by omega, by omega⟩
    | true =>
      obtain ⟨b', o', et', ho'⟩ := eq0_ev f hBb (E := EG (.va (.lst (ss.map .str))) (.va (.lst l2)) (.va (.lst l3')) .no .no .no .no) 2 (by omega) rfl
      have kb' := kb.trans (Kp.bag hBb o')
      have hBb' := hBb.set ho'
      generalize (S4.set 0 o).set 0 o' = S4' at *
      generalize S4.set 0 o = S4b at *
      cases b' with
      | true =>
        obtain ⟨l, T, e, hBT, k, a, n⟩ := spoilt_ok f hBb' hs (b2.kp kb') (by omega)
        refine ⟨l, l3', T, ?_, hBT, a, b3.kp (kb'.trans k), n, by omega⟩
        rw [ev_sif, et, kS_ok, qIf_t, ev_sif, et', kS_ok, qIf_t]
        generalize ss.map Dv.str = q at *
        simp [e]
      | false =>
        obtain ⟨l, T, e, hBT, k, a, n⟩ := spoilt_ok f hBb' hs (b3.kp kb') (by omega)
        refine ⟨l2, l, T, ?_, hBT, b2.kp (kb'.trans k), a, by omega, n⟩
        rw [ev_sif, et, kS_ok, qIf_t, ev_sif, et', kS_ok, qIf_f]
        generalize ss.map Dv.str = q at *
        simp [e]
  obtain ⟨m2, m3, S5, s5, hB5, c2, c3, q2, q3⟩ := h5
  -- mixed
  obtain ⟨d2, o6, e6, ho6, pm2⟩ := mixD_ok (f + 6) hB5 m2 (by omega)
  have hB6 := hB5.set ho6
  obtain ⟨d3, o7, e7, ho7, pm3⟩ := mixD_ok (f + 6) hB6 m3 (by omega)
  have hB7 := hB6.set ho7
  have kb7 : Kp S5 ((S5.set 0 o6).set 0 o7) := (Kp.bag hB5 o6).trans (Kp.bag hB6 o7)
  generalize (S5.set 0 o6) = S6 at *
  generalize S6.set 0 o7 = S7 at *
  have f2 : AllP U65 S7 d2 := (c2.kp kb7).sub fun d hd => pm2.mem_iff.mp hd
  have f3 : AllP U65 S7 d3 := (c3.kp kb7).sub fun d hd => pm3.mem_iff.mp hd
  have r2 : d2.length ≤ 700 := by rw [pm2.length_eq]; exact q2
  have r3 : d3.length ≤ 700 := by rw [pm3.length_eq]; exact q3
  have s6 : sPar 2 3 (aCons (eCall (calls (f + 8) .l_mixed) (aCons (eVar 0) (aCons (eVar 2) aNil))) (aCons (eCall (calls (f + 8) .l_mixed) (aCons (eVar 0) (aCons (eVar 3) aNil))) aNil)) (EG (.va (.lst (ss.map .str))) (.va (.lst m2)) (.va (.lst m3)) .no .no .no .no) S5 = .nx (EG (.va (.lst (ss.map .str))) (.va (.lst d2)) (.va (.lst d3)) .no .no .no .no) S7 := by
    generalize ss.map Dv.str = q at *
    simp [e6, e7]
  obtain ⟨hs1, tm, rfl, p1, g1⟩ := f2.pms
  obtain ⟨hs2, bm, rfl, p2, g2⟩ := f3.pms
  have t1 : tm.length ≤ 900 := by rw [← p1.len]; rw [List.length_map] at r2; omega
  have t2 : bm.length ≤ 900 := by rw [← p2.len]; rw [List.length_map] at r3; omega
  have w1 := words_ev (f + 7) (E := EG (.va (.lst (ss.map .str))) (.va (.lst (hs1.map .hdl))) (.va (.lst (hs2.map .hdl))) .no .no .no .no) rfl rfl (fun d => rfl) p1 p2 g1 g2 t1 t2
  let W : Dv := .lst [.lst ((tm.map norm).map dicD), .lst ((bm.map norm).map dicD)]
  have s7 : sAsg 4 (eFrz (fLst (aCons (eFrz (fLc (iSq (eVar 2)) (gN 7) tTrue (eMeth "Promises" "powers" [] (calls (f + 8) .Promises_powers) (eVar 7) aNil) [7])) (aCons (eFrz (fLc (iSq (eVar 3)) (gN 7) tTrue (eMeth "Promises" "powers" [] (calls (f + 8) .Promises_powers) (eVar 7) aNil) [7])) aNil)))) (EG (.va (.lst (ss.map .str))) (.va (.lst (hs1.map .hdl))) (.va (.lst (hs2.map .hdl))) .no .no .no .no) S7 = .nx (EG (.va (.lst (ss.map .str))) (.va (.lst (hs1.map .hdl))) (.va (.lst (hs2.map .hdl))) (.va W) .no .no .no) S7 := by
    rw [ev_asg]
    show kS _ _ (eFrz (fLst (aCons (eFrz (fLc (iSq (eVar 2)) (gN 7) tTrue (eMeth "Promises" "powers" [] (calls (f + 7 + 1) .Promises_powers) (eVar 7) aNil) [7])) (aCons (eFrz (fLc (iSq (eVar 3)) (gN 7) tTrue (eMeth "Promises" "powers" [] (calls (f + 7 + 1) .Promises_powers) (eVar 7) aNil) [7])) aNil))) _ S7) = _
    rw [w1]
    rfl
  have s8 : sAsg 5 (eCB listD (aCons (eVar 1) aNil)) (EG (.va (.lst (ss.map .str))) (.va (.lst (hs1.map .hdl))) (.va (.lst (hs2.map .hdl))) (.va W) .no .no .no) S7 = .nx (EG (.va (.lst (ss.map .str))) (.va (.lst (hs1.map .hdl))) (.va (.lst (hs2.map .hdl))) (.va W) (.va (.lst (ss.map .str))) .no .no) S7 := by
    generalize W = w at *
    generalize ss.map Dv.str = q at *
    generalize hs1.map Dv.hdl = z1 at *
    generalize hs2.map Dv.hdl = z2 at *
    simp
  obtain ⟨S8, e8, x8⟩ := border_ok f hs p1 p2 g1 g2 t1 t2
  obtain ⟨S9, e9, x9⟩ := due_ok f hs (p1.ext x8) (p2.ext x8) g1 g2 t1 t2
  have hB9 := bag_ext (bag_ext hB7 x8) x9
  have hqs := eq_strs S9 (l := ss) fun s h => menu_lay s (hs.2.1 s h)
  let E5 : Env := EG (.va (.lst (ss.map .str))) (.va (.lst (hs1.map .hdl))) (.va (.lst (hs2.map .hdl))) (.va W) (.va (.lst (ss.map .str))) .no .no
  have s9 : sIf (tOr' (tNot' (tTru (eCall (calls (f + 8) .l_truth) (aCons (eCall (calls (f + 8) .is_border) (aCons (eVar 5) (aCons (eVar 2) (aCons (eVar 3) aNil)))) (aCons (eCall (calls (f + 8) .l_due) (aCons (eVar 1) (aCons (eVar 2) (aCons (eVar 3) aNil)))) aNil))))) (tVal (eBin neE (eVar 5) (eVar 1)))) (sRet (eC (.bl false))) sNil E5 S7 = .nx E5 S9 := by
    have ht := truth_ok (f + 7) S9 (!((rowsP ss).map norm).any (bo1 tm bm)) (!((rowsP ss).map norm).any (bo1 tm bm))
    show sIf _ _ _ (EG (.va (.lst (ss.map .str))) (.va (.lst (hs1.map .hdl))) (.va (.lst (hs2.map .hdl))) (.va W) (.va (.lst (ss.map .str))) .no .no) S7 = .nx (EG (.va (.lst (ss.map .str))) (.va (.lst (hs1.map .hdl))) (.va (.lst (hs2.map .hdl))) (.va W) (.va (.lst (ss.map .str))) .no .no) S9
    generalize (!((rowsP ss).map norm).any (bo1 tm bm)) = bb at *
    generalize W = w at *
    generalize ss.map Dv.str = q at *
    generalize hs1.map Dv.hdl = z1 at *
    generalize hs2.map Dv.hdl = z2 at *
    simp [e8, e9, ht, hqs]
  have w2 := words_ev (f + 7) (E := E5) rfl rfl (fun d => rfl) ((p1.ext x8).ext x9) ((p2.ext x8).ext x9) g1 g2 t1 t2
  have hw := words_eq S9 tm bm
  have v4 : eVar 4 E5 S9 = .ok W S9 := rfl
  refine ⟨S9, ?_, hB9⟩
  rw [ev_l_go, fb_l_go]
  show kRun (sSeq _ _ (EG .no .no .no .no .no .no .no) S) = _
  rw [ev_seq, s1, kSeq_nx, ev_seq, s2, kSeq_nx, ev_seq, s3, kSeq_nx, ev_seq, s4, kSeq_nx, ev_seq, s5, kSeq_nx, ev_seq, s6, kSeq_nx, ev_seq, s7, kSeq_nx, ev_seq, s8, kSeq_nx, ev_seq]
  show kRun (kSeq _ (sIf _ _ _ E5 S7)) = _
  rw [s9, kSeq_nx, ev_ret, ev_bin, v4, bnd_ok, ev_b1]
  show kRun (kS qRet _ (bnd (eFrz (fLst (aCons (eFrz (fLc (iSq (eVar 2)) (gN 7) tTrue (eMeth "Promises" "powers" [] (calls (f + 7 + 1) .Promises_powers) (eVar 7) aNil) [7])) (aCons (eFrz (fLc (iSq (eVar 3)) (gN 7) tTrue (eMeth "Promises" "powers" [] (calls (f + 7 + 1) .Promises_powers) (eVar 7) aNil) [7])) aNil))) E5 S9) (kB2 eqVD W))) = _
  rw [w2, bnd_ok, ev_b2]
  show kRun (kS qRet _ (ofO (eqVD S9 (.lst [.lst ((tm.map norm).map dicD), .lst ((bm.map norm).map dicD)]) (.lst [.lst ((tm.map norm).map dicD), .lst ((bm.map norm).map dicD)])))) = _
  rw [hw]
  rfl
theorem turns (ns : List Int) (f : Nat) : ∀ (ds : List Dv) (S : Sto) (x2 : Sl), BagAt S 0 → ∃ (y2 : Sl) (S' : Sto), forR (gN 2) (fb_law_l0 (calls (f + 9))) ds [.va (.rol (ns.map .int)), .va (.hdl 0), x2] S = .nx [.va (.rol (ns.map .int)), .va (.hdl 0), y2] S'
  | [], S, x2, _ => ⟨x2, S, rfl⟩
  | d :: ds, S, x2, hB => by
    obtain ⟨T, e, hT⟩ := go_ok f hB
    obtain ⟨y2, S', e2⟩ := turns ns f ds T (.va d) hT
    refine ⟨y2, S', ?_⟩
    rw [← e2]
    refine forR_nx (e1 := [.va (.rol (ns.map .int)), .va (.hdl 0), .va d]) rfl ?_
    rw [fb_law_l0]
    generalize ns.map Dv.int = q
    simp [e]
theorem law_true (ns : List Int) (h : ns.length ≤ 63) : ∃ S, calls (20 + 1) .law [] [.rol (ns.map .int)] = .ok (.bl true) S := by
  obtain ⟨o, e, ho⟩ := bag_ok 19 [] ns h
  obtain ⟨y2, S', e2⟩ := turns ns 11 (rngD 0 3) [o] .no (bag_at ho)
  refine ⟨S', ?_⟩
  rw [ev_law, fb_law]
  have hr := rngR1_ok [o] 3 (by omega)
  have e' : calls 20 .l_bag [] [.rol (ns.map .int)] = .ok (.hdl 0) [o] := e
  have h6 : (3 : Int).toNat = 3 := rfl
  rw [h6] at hr
  generalize rngD 0 3 = q at *
  generalize ns.map Dv.int = qn at *
  simp [e', hr, e2]
end DL
namespace Row
open PySem L2 DL
structure Tx (K : PySem.W.Frag) (w : World) (mg : Str → Option Value) : Prop where
  f_abs : mg "abs" = none
  f_dict : mg "dict" = none
  f_int : mg "int" = none
  f_isinstance : mg "isinstance" = none
  f_len : mg "len" = none
  f_list : mg "list" = none
  f_range : mg "range" = none
  f_set : mg "set" = none
  f_sorted : mg "sorted" = none
  f_str : mg "str" = none
  c_LETTERS : GlobC K mg "LETTERS" c_LETTERS
  c_RESERVED : GlobC K mg "RESERVED" c_RESERVED
  c_SPLITS : GlobC K mg "SPLITS" c_SPLITS
  c_POWERS : GlobC K mg "POWERS" c_POWERS
  g_l_bag : mg "_law_bag" = some (.ref (He.ga K "_law_bag"))
  g_is_made_of : mg "is_made_of" = some (.ref (He.ga K "is_made_of"))
  g_is_own_name : mg "is_own_name" = some (.ref (He.ga K "is_own_name"))
  g_is_sign : mg "is_sign" = some (.ref (He.ga K "is_sign"))
  g_is_promise : mg "is_promise" = some (.ref (He.ga K "is_promise"))
  g_checked : mg "checked" = some (.ref (He.ga K "checked"))
  g_all_promises : mg "all_promises" = some (.ref (He.ga K "all_promises"))
  g_is_at_most : mg "is_at_most" = some (.ref (He.ga K "is_at_most"))
  g_l_outside : mg "_law_outside" = some (.ref (He.ga K "_law_outside"))
  g_l_take : mg "_law_take" = some (.ref (He.ga K "_law_take"))
  g_l_mixed : mg "_law_mixed" = some (.ref (He.ga K "_law_mixed"))
  g_l_one : mg "_law_one" = some (.ref (He.ga K "_law_one"))
  g_l_some : mg "_law_some" = some (.ref (He.ga K "_law_some"))
  g_l_spoilt : mg "_law_spoilt" = some (.ref (He.ga K "_law_spoilt"))
  g_l_truth : mg "_law_truth" = some (.ref (He.ga K "_law_truth"))
  g_is_border : mg "is_border" = some (.ref (He.ga K "is_border"))
  g_l_due : mg "_law_due" = some (.ref (He.ga K "_law_due"))
  g_l_go : mg "_law_go" = some (.ref (He.ga K "_law_go"))
  g_law : mg "law" = some (.ref (He.ga K "law"))
  g_Promises : mg "Promises" = some (.ref (He.ga K "Promises"))
  k_Promises : Cls K (He.ga K "Promises")
  mk_Promises : Mk K (He.ga K "Promises") (He.ma K (He.ga K "Promises") "__init__")
  na_Promises_named : NoAttr K (He.ga K "Promises") "named"
  iso_Promises : IsO K "Promises" su_Promises
  fn_Promises_getitem : PySem.W.fnIn K (He.ma K (He.ga K "Promises") "__getitem__") = true
  eq_Promises : EqF K (He.ga K "Promises")
  ow_Promises : OwF K (He.ga K "Promises")
  m_Promises_getitem : Meth K (He.ga K "Promises") "__getitem__" (He.ma K (He.ga K "Promises") "__getitem__")
  m_Promises_powers : Meth K (He.ga K "Promises") "powers" (He.ma K (He.ga K "Promises") "powers")
  m_Promises_at_most : Meth K (He.ga K "Promises") "at_most" (He.ma K (He.ga K "Promises") "at_most")
  m_Promises_eq : Meth K (He.ga K "Promises") "__eq__" (He.ma K (He.ga K "Promises") "__eq__")
  m_Promises_setitem : Meth K (He.ga K "Promises") "__setitem__" (He.ma K (He.ga K "Promises") "__setitem__")
  m_Promises_copied : Meth K (He.ga K "Promises") "copied" (He.ma K (He.ga K "Promises") "copied")
  d_l_bag : ∃ fd, FunD K "_law_bag" "_law_bag" (defArgs st_l_bag) (defBody st_l_bag) (defScope st_l_bag) [] [] (He.ga K "_law_bag") fd
  d_is_made_of : ∃ fd, FunD K "is_made_of" "is_made_of" (defArgs st_is_made_of) (defBody st_is_made_of) (defScope st_is_made_of) [] [] (He.ga K "is_made_of") fd
  d_is_own_name : ∃ fd, FunD K "is_own_name" "is_own_name" (defArgs st_is_own_name) (defBody st_is_own_name) (defScope st_is_own_name) [] [] (He.ga K "is_own_name") fd
  d_is_sign : ∃ fd, FunD K "is_sign" "is_sign" (defArgs st_is_sign) (defBody st_is_sign) (defScope st_is_sign) [] [] (He.ga K "is_sign") fd
  d_is_promise : ∃ fd, FunD K "is_promise" "is_promise" (defArgs st_is_promise) (defBody st_is_promise) (defScope st_is_promise) [] [] (He.ga K "is_promise") fd
  d_checked : ∃ fd, FunD K "checked" "checked" (defArgs st_checked) (defBody st_checked) (defScope st_checked) [] [] (He.ga K "checked") fd
  d_Promises_init : ∃ fd, FunD K "__init__" "Promises.__init__" (defArgs st_Promises_init) (defBody st_Promises_init) (defScope st_Promises_init) ((dd_Promises_init).dvs K) [] (He.ma K (He.ga K "Promises") "__init__") fd
  d_all_promises : ∃ fd, FunD K "all_promises" "all_promises" (defArgs st_all_promises) (defBody st_all_promises) (defScope st_all_promises) [] [] (He.ga K "all_promises") fd
  d_Promises_getitem : ∃ fd, FunD K "__getitem__" "Promises.__getitem__" (defArgs st_Promises_getitem) (defBody st_Promises_getitem) (defScope st_Promises_getitem) [] [] (He.ma K (He.ga K "Promises") "__getitem__") fd
  d_is_at_most : ∃ fd, FunD K "is_at_most" "is_at_most" (defArgs st_is_at_most) (defBody st_is_at_most) (defScope st_is_at_most) [] [] (He.ga K "is_at_most") fd
  d_Promises_powers : ∃ fd, FunD K "powers" "Promises.powers" (defArgs st_Promises_powers) (defBody st_Promises_powers) (defScope st_Promises_powers) [] [] (He.ma K (He.ga K "Promises") "powers") fd
  d_Promises_at_most : ∃ fd, FunD K "at_most" "Promises.at_most" (defArgs st_Promises_at_most) (defBody st_Promises_at_most) (defScope st_Promises_at_most) [] [] (He.ma K (He.ga K "Promises") "at_most") fd
  d_Promises_eq : ∃ fd, FunD K "__eq__" "Promises.__eq__" (defArgs st_Promises_eq) (defBody st_Promises_eq) (defScope st_Promises_eq) [] [] (He.ma K (He.ga K "Promises") "__eq__") fd
  d_l_outside : ∃ fd, FunD K "_law_outside" "_law_outside" (defArgs st_l_outside) (defBody st_l_outside) (defScope st_l_outside) [] [] (He.ga K "_law_outside") fd
  d_l_take : ∃ fd, FunD K "_law_take" "_law_take" (defArgs st_l_take) (defBody st_l_take) (defScope st_l_take) [] [] (He.ga K "_law_take") fd
  d_l_mixed : ∃ fd, FunD K "_law_mixed" "_law_mixed" (defArgs st_l_mixed) (defBody st_l_mixed) (defScope st_l_mixed) [] [] (He.ga K "_law_mixed") fd
  d_l_one : ∃ fd, FunD K "_law_one" "_law_one" (defArgs st_l_one) (defBody st_l_one) (defScope st_l_one) [] [] (He.ga K "_law_one") fd
  d_l_some : ∃ fd, FunD K "_law_some" "_law_some" (defArgs st_l_some) (defBody st_l_some) (defScope st_l_some) [] [] (He.ga K "_law_some") fd
  d_Promises_setitem : ∃ fd, FunD K "__setitem__" "Promises.__setitem__" (defArgs st_Promises_setitem) (defBody st_Promises_setitem) (defScope st_Promises_setitem) [] [] (He.ma K (He.ga K "Promises") "__setitem__") fd
  d_Promises_copied : ∃ fd, FunD K "copied" "Promises.copied" (defArgs st_Promises_copied) (defBody st_Promises_copied) (defScope st_Promises_copied) [] [] (He.ma K (He.ga K "Promises") "copied") fd
  d_l_spoilt : ∃ fd, FunD K "_law_spoilt" "_law_spoilt" (defArgs st_l_spoilt) (defBody st_l_spoilt) (defScope st_l_spoilt) [] [] (He.ga K "_law_spoilt") fd
  d_l_truth : ∃ fd, FunD K "_law_truth" "_law_truth" (defArgs st_l_truth) (defBody st_l_truth) (defScope st_l_truth) [] [] (He.ga K "_law_truth") fd
  d_is_border : ∃ fd, FunD K "is_border" "is_border" (defArgs st_is_border) (defBody st_is_border) (defScope st_is_border) [] [] (He.ga K "is_border") fd
  d_l_due : ∃ fd, FunD K "_law_due" "_law_due" (defArgs st_l_due) (defBody st_l_due) (defScope st_l_due) [] [] (He.ga K "_law_due") fd
  d_l_go : ∃ fd, FunD K "_law_go" "_law_go" (defArgs st_l_go) (defBody st_l_go) (defScope st_l_go) [] [] (He.ga K "_law_go") fd
  d_law : ∃ fd, FunD K "law" "law" (defArgs st_law) (defBody st_law) (defScope st_law) [] [] (He.ga K "law") fd
def Fn.ok (P : Program) (w : World) (K : PySem.W.Frag) (mg : Str → Option Value) (base : Heap) (k : Nat) : Fn → DF → Prop
  | .l_bag, g => FD P w K mg base k "_law_bag" g
  | .is_made_of, g => FD P w K mg base k "is_made_of" g
  | .is_own_name, g => FD P w K mg base k "is_own_name" g
  | .is_sign, g => FD P w K mg base k "is_sign" g
  | .is_promise, g => FD P w K mg base k "is_promise" g
  | .checked, g => FD P w K mg base k "checked" g
  | .Promises_init, g => FI P w K mg base k "Promises" (InB "Promises.__init__" st_Promises_init ["self", "powers"] (fun K => (dd_Promises_init).dvs K) (fun K => [])) g
  | .all_promises, g => FD P w K mg base k "all_promises" g
  | .Promises_getitem, g => FM P w K mg base k "Promises" "__getitem__" [] g
  | .is_at_most, g => FD P w K mg base k "is_at_most" g
  | .Promises_powers, g => FM P w K mg base k "Promises" "powers" [] g
  | .Promises_at_most, g => FM P w K mg base k "Promises" "at_most" [] g
  | .Promises_eq, g => FM P w K mg base k "Promises" "__eq__" [] g
  | .l_outside, g => FD P w K mg base k "_law_outside" g
  | .l_take, g => FD P w K mg base k "_law_take" g
  | .l_mixed, g => FD P w K mg base k "_law_mixed" g
  | .l_one, g => FD P w K mg base k "_law_one" g
  | .l_some, g => FD P w K mg base k "_law_some" g
  | .Promises_setitem, g => FM P w K mg base k "Promises" "__setitem__" [] g
  | .Promises_copied, g => FM P w K mg base k "Promises" "copied" [] g
  | .l_spoilt, g => FD P w K mg base k "_law_spoilt" g
  | .l_truth, g => FD P w K mg base k "_law_truth" g
  | .is_border, g => FD P w K mg base k "is_border" g
  | .l_due, g => FD P w K mg base k "_law_due" g
  | .l_go, g => FD P w K mg base k "_law_go" g
  | .law, g => FD P w K mg base k "law" g
def OkC (P : Program) (w : World) (K : PySem.W.Frag) (mg : Str → Option Value) (base : Heap) (k : Nat) (c : Fn → DF) : Prop := ∀ f, Fn.ok P w K mg base k f (c f)
theorem okf_l_bag {P : Program} {w : World} {K : PySem.W.Frag} {mg : Str → Option Value} {base : Heap} {k : Nat} {c : Fn → DF} (ih : OkC P w K mg base k c) : FD P w K mg base k "_law_bag" (c .l_bag) := ih .l_bag
theorem okf_is_made_of {P : Program} {w : World} {K : PySem.W.Frag} {mg : Str → Option Value} {base : Heap} {k : Nat} {c : Fn → DF} (ih : OkC P w K mg base k c) : FD P w K mg base k "is_made_of" (c .is_made_of) := ih .is_made_of
theorem okf_is_own_name {P : Program} {w : World} {K : PySem.W.Frag} {mg : Str → Option Value} {base : Heap} {k : Nat} {c : Fn → DF} (ih : OkC P w K mg base k c) : FD P w K mg base k "is_own_name" (c .is_own_name) := ih .is_own_name
theorem okf_is_sign {P : Program} {w : World} {K : PySem.W.Frag} {mg : Str → Option Value} {base : Heap} {k : Nat} {c : Fn → DF} (ih : OkC P w K mg base k c) : FD P w K mg base k "is_sign" (c .is_sign) := ih .is_sign
theorem okf_is_promise {P : Program} {w : World} {K : PySem.W.Frag} {mg : Str → Option Value} {base : Heap} {k : Nat} {c : Fn → DF} (ih : OkC P w K mg base k c) : FD P w K mg base k "is_promise" (c .is_promise) := ih .is_promise
theorem okf_checked {P : Program} {w : World} {K : PySem.W.Frag} {mg : Str → Option Value} {base : Heap} {k : Nat} {c : Fn → DF} (ih : OkC P w K mg base k c) : FD P w K mg base k "checked" (c .checked) := ih .checked
theorem okf_Promises_init {P : Program} {w : World} {K : PySem.W.Frag} {mg : Str → Option Value} {base : Heap} {k : Nat} {c : Fn → DF} (ih : OkC P w K mg base k c) : FI P w K mg base k "Promises" (InB "Promises.__init__" st_Promises_init ["self", "powers"] (fun K => (dd_Promises_init).dvs K) (fun K => [])) (c .Promises_init) := ih .Promises_init
theorem okf_all_promises {P : Program} {w : World} {K : PySem.W.Frag} {mg : Str → Option Value} {base : Heap} {k : Nat} {c : Fn → DF} (ih : OkC P w K mg base k c) : FD P w K mg base k "all_promises" (c .all_promises) := ih .all_promises
theorem okf_Promises_getitem {P : Program} {w : World} {K : PySem.W.Frag} {mg : Str → Option Value} {base : Heap} {k : Nat} {c : Fn → DF} (ih : OkC P w K mg base k c) : FM P w K mg base k "Promises" "__getitem__" [] (c .Promises_getitem) := ih .Promises_getitem
theorem okf_is_at_most {P : Program} {w : World} {K : PySem.W.Frag} {mg : Str → Option Value} {base : Heap} {k : Nat} {c : Fn → DF} (ih : OkC P w K mg base k c) : FD P w K mg base k "is_at_most" (c .is_at_most) := ih .is_at_most
theorem okf_Promises_powers {P : Program} {w : World} {K : PySem.W.Frag} {mg : Str → Option Value} {base : Heap} {k : Nat} {c : Fn → DF} (ih : OkC P w K mg base k c) : FM P w K mg base k "Promises" "powers" [] (c .Promises_powers) := ih .Promises_powers
theorem okf_Promises_at_most {P : Program} {w : World} {K : PySem.W.Frag} {mg : Str → Option Value} {base : Heap} {k : Nat} {c : Fn → DF} (ih : OkC P w K mg base k c) : FM P w K mg base k "Promises" "at_most" [] (c .Promises_at_most) := ih .Promises_at_most
theorem okf_Promises_eq {P : Program} {w : World} {K : PySem.W.Frag} {mg : Str → Option Value} {base : Heap} {k : Nat} {c : Fn → DF} (ih : OkC P w K mg base k c) : FM P w K mg base k "Promises" "__eq__" [] (c .Promises_eq) := ih .Promises_eq
theorem okf_l_outside {P : Program} {w : World} {K : PySem.W.Frag} {mg : Str → Option Value} {base : Heap} {k : Nat} {c : Fn → DF} (ih : OkC P w K mg base k c) : FD P w K mg base k "_law_outside" (c .l_outside) := ih .l_outside
theorem okf_l_take {P : Program} {w : World} {K : PySem.W.Frag} {mg : Str → Option Value} {base : Heap} {k : Nat} {c : Fn → DF} (ih : OkC P w K mg base k c) : FD P w K mg base k "_law_take" (c .l_take) := ih .l_take
theorem okf_l_mixed {P : Program} {w : World} {K : PySem.W.Frag} {mg : Str → Option Value} {base : Heap} {k : Nat} {c : Fn → DF} (ih : OkC P w K mg base k c) : FD P w K mg base k "_law_mixed" (c .l_mixed) := ih .l_mixed
theorem okf_l_one {P : Program} {w : World} {K : PySem.W.Frag} {mg : Str → Option Value} {base : Heap} {k : Nat} {c : Fn → DF} (ih : OkC P w K mg base k c) : FD P w K mg base k "_law_one" (c .l_one) := ih .l_one
theorem okf_l_some {P : Program} {w : World} {K : PySem.W.Frag} {mg : Str → Option Value} {base : Heap} {k : Nat} {c : Fn → DF} (ih : OkC P w K mg base k c) : FD P w K mg base k "_law_some" (c .l_some) := ih .l_some
theorem okf_Promises_setitem {P : Program} {w : World} {K : PySem.W.Frag} {mg : Str → Option Value} {base : Heap} {k : Nat} {c : Fn → DF} (ih : OkC P w K mg base k c) : FM P w K mg base k "Promises" "__setitem__" [] (c .Promises_setitem) := ih .Promises_setitem
theorem okf_Promises_copied {P : Program} {w : World} {K : PySem.W.Frag} {mg : Str → Option Value} {base : Heap} {k : Nat} {c : Fn → DF} (ih : OkC P w K mg base k c) : FM P w K mg base k "Promises" "copied" [] (c .Promises_copied) := ih .Promises_copied
theorem okf_l_spoilt {P : Program} {w : World} {K : PySem.W.Frag} {mg : Str → Option Value} {base : Heap} {k : Nat} {c : Fn → DF} (ih : OkC P w K mg base k c) : FD P w K mg base k "_law_spoilt" (c .l_spoilt) := ih .l_spoilt
theorem okf_l_truth {P : Program} {w : World} {K : PySem.W.Frag} {mg : Str → Option Value} {base : Heap} {k : Nat} {c : Fn → DF} (ih : OkC P w K mg base k c) : FD P w K mg base k "_law_truth" (c .l_truth) := ih .l_truth
theorem okf_is_border {P : Program} {w : World} {K : PySem.W.Frag} {mg : Str → Option Value} {base : Heap} {k : Nat} {c : Fn → DF} (ih : OkC P w K mg base k c) : FD P w K mg base k "is_border" (c .is_border) := ih .is_border
theorem okf_l_due {P : Program} {w : World} {K : PySem.W.Frag} {mg : Str → Option Value} {base : Heap} {k : Nat} {c : Fn → DF} (ih : OkC P w K mg base k c) : FD P w K mg base k "_law_due" (c .l_due) := ih .l_due
theorem okf_l_go {P : Program} {w : World} {K : PySem.W.Frag} {mg : Str → Option Value} {base : Heap} {k : Nat} {c : Fn → DF} (ih : OkC P w K mg base k c) : FD P w K mg base k "_law_go" (c .l_go) := ih .l_go
theorem pb_Promises_1 (K : PySem.W.Frag) : PoB K (InB "Promises.__init__" st_Promises_init ["self", "powers"] (fun K => (dd_Promises_init).dvs K) (fun K => [])) dl_Promises_1 := fun f fd ps' ⟨e, F⟩ => by
  subst e
  obtain ⟨ds, h1, h2⟩ := L2.FunD.binds1 (ps := ["self", "powers"]) F 2 1 (by intro z; cases z) rfl (fun T kV doc pm an cdv ct us its h1 h2 => match us, its, h1, h2 with | [_, _], [_], _, _ => ⟨_, rfl, rfl⟩)
  exact ⟨ds, _, h2, h1, fun L io H => .nil⟩
section
variable {P : Program} {w : World} {K : PySem.W.Frag} {mg : Str → Option Value} {base : Heap} {k : Nat} {c : Fn → DF}
theorem fd_l_bag (T : Tx K w mg) (hs : SysB base) (ih : OkC P w K mg base k c) : FD P w K mg base (k + 2) "_law_bag" (g_l_bag c) :=
  fd_mk T.d_l_bag T.g_l_bag sc_l_bag bi_l_bag rfl rfl fun cdv A up s H E hr tk pw =>
    (qss_one (qs_ret (qe_new (qf_lst (qa_cons qe_int (qa_cons qe_int (qa_cons qe_int (qa_cons (qe_frz (qf_lc (own := [("_law_cell", 1)]) rfl sc_l_bag.nd (qi_seq (qe_cut (qx (qe_var 0)) qo_none (qo_some qe_int))) (blkOk_by (own := [("_law_cell", 1)]) (N := ["_law_script", "_law_cell"]) (sc := defScope st_l_bag) (by decide +kernel)) (fun _ _ _ _ _ => (qg_name sc_l_bag.nd 1)) (fun _ _ _ _ _ => qts_nil) (fun _ _ _ _ _ => (qe_callB call_abs cas_abs T.f_abs (by decide +kernel) (qxs_cons (qx (qe_var 1)) qxs_nil))))) qa_nil))))))))
theorem fd_is_made_of (T : Tx K w mg) (hs : SysB base) (ih : OkC P w K mg base k c) : FD P w K mg base (k + 2) "is_made_of" (g_is_made_of c) :=
  fd_mk T.d_is_made_of T.g_is_made_of sc_is_made_of bi_is_made_of rfl rfl fun cdv A up s H E hr tk pw =>
    (qss_cons (qs_if (qt_w (qw_or (qt_not (qt_tru (qx (qe_callB call_isiA cas_isi T.f_isinstance (by decide +kernel) (qxs_cons (qx (qe_var 0)) (qxs_cons (qx (qe_ty T.f_str (by decide +kernel))) qxs_nil)))))) (qw_or1 (qt_not (qt_chn op_lt os_lt op_le os_le (qx qe_int) (qx (qe_callB call_len cas_len T.f_len (by decide +kernel) (qxs_cons (qx (qe_var 0)) qxs_nil))) (qx qe_int)))))) (qss_one (qs_ret qe_bl)) qss_nil) (qss_cons (qs_for pw rfl (qi_seq (qe_var 0)) (qg_name sc_is_made_of.nd 2) (qss_one (qs_if (qt_ni (qx (qe_var 2)) (qx (qe_var 1))) (qss_one (qs_ret qe_bl)) qss_nil))) (qss_one (qs_ret qe_bl))))
theorem fd_is_own_name (T : Tx K w mg) (hs : SysB base) (ih : OkC P w K mg base k c) : FD P w K mg base (k + 2) "is_own_name" (g_is_own_name c) :=
  fd_mk T.d_is_own_name T.g_is_own_name sc_is_own_name bi_is_own_name rfl rfl fun cdv A up s H E hr tk pw =>
    (qss_one (qs_ret (qe_and (qe_call (okf_is_made_of ih) hr tk (qa_cons (qe_var 0) (qa_cons (qe_con T.c_LETTERS) qa_nil))) (qe_one (qe_ni (qx (qe_var 0)) (qx (qe_con T.c_RESERVED)))))))
theorem fd_is_sign (T : Tx K w mg) (hs : SysB base) (ih : OkC P w K mg base k c) : FD P w K mg base (k + 2) "is_sign" (g_is_sign c) :=
  fd_mk T.d_is_sign T.g_is_sign sc_is_sign bi_is_sign rfl rfl fun cdv A up s H E hr tk pw =>
    (qss_one (qs_ret (qe_and (qe_call (okf_is_own_name ih) hr tk (qa_cons (qe_var 0) qa_nil)) (qe_one (qe_ne hr.r (qx (qe_var 0)) (qx qe_str))))))
theorem fd_is_promise (T : Tx K w mg) (hs : SysB base) (ih : OkC P w K mg base k c) : FD P w K mg base (k + 2) "is_promise" (g_is_promise c) :=
  fd_mk T.d_is_promise T.g_is_promise sc_is_promise bi_is_promise rfl rfl fun cdv A up s H E hr tk pw =>
    (qss_cons (qs_if (qt_w (qw_or (qt_not (qt_tru (qx (qe_callB call_isiA cas_isi T.f_isinstance (by decide +kernel) (qxs_cons (qx (qe_var 0)) (qxs_cons (qx (qe_ty T.f_str (by decide +kernel))) qxs_nil)))))) (qw_or1 (qt_not (qt_tru (qx (qe_callB call_isiA cas_isi T.f_isinstance (by decide +kernel) (qxs_cons (qx (qe_var 1)) (qxs_cons (qx (qe_ty T.f_str (by decide +kernel))) qxs_nil))))))))) (qss_one (qs_ret qe_bl)) qss_nil) (qss_one (qs_ret (qe_and (qe_or (qe_call (okf_is_sign ih) hr tk (qa_cons (qe_var 0) qa_nil)) (qe_one (qe_in (qx (qe_var 0)) (qx (qe_con T.c_SPLITS))))) (qe_one (qe_in (qx (qe_var 1)) (qx (qe_con T.c_POWERS))))))))
theorem fd_checked (T : Tx K w mg) (hs : SysB base) (ih : OkC P w K mg base k c) : FD P w K mg base (k + 2) "checked" (g_checked c) :=
  fd_mk T.d_checked T.g_checked sc_checked bi_checked rfl rfl fun cdv A up s H E hr tk pw =>
    (qss_cons (qs_if (qt_not (qt_tru (qx (qe_callB call_isiA cas_isi T.f_isinstance (by decide +kernel) (qxs_cons (qx (qe_var 0)) (qxs_cons (qx (qe_ty T.f_dict (by decide +kernel))) qxs_nil)))))) (qss_one qs_never) qss_nil) (qss_cons (qs_items 0 pw rfl (qg_tup rfl (qgs_cons (qg_name sc_checked.nd 1) (qgs_cons (qg_name sc_checked.nd 2) qgs_nil))) (qt_w (qw_or (qt_not (qt_tru (qx (qe_callB call_isiA cas_isi T.f_isinstance (by decide +kernel) (qxs_cons (qx (qe_var 1)) (qxs_cons (qx (qe_ty T.f_str (by decide +kernel))) qxs_nil)))))) (qw_or1 (qt_not (qt_tru (qx (qe_callB call_isiA cas_isi T.f_isinstance (by decide +kernel) (qxs_cons (qx (qe_var 2)) (qxs_cons (qx (qe_ty T.f_str (by decide +kernel))) qxs_nil)))))))))) (qss_cons (qs_for pw rfl (qi_seq (qe_frz (qf_srtD T.f_sorted (qxs_cons (qx (qe_var 0)) qxs_nil)))) (qg_name sc_checked.nd 1) (qss_one (qs_if (qt_not (qt_tru (qx (qe_call (okf_is_promise ih) hr tk (qa_cons (qe_var 1) (qa_cons (qe_dget hr.r (qx (qe_var 0)) (qx (qe_var 1))) qa_nil)))))) (qss_one qs_never) qss_nil))) (qss_one (qs_ret (qe_hdlN (qn_d (qd_dc (own := [("sign", 1)]) rfl sc_checked.nd (qi_seq (qe_frz (qf_srtD T.f_sorted (qxs_cons (qx (qe_var 0)) qxs_nil)))) (blkOk_by (own := [("sign", 1)]) (N := ["powers", "sign", "power"]) (sc := defScope st_checked) (by decide +kernel)) (fun _ _ _ _ _ => (qg_name sc_checked.nd 1)) (fun _ _ _ _ _ => (qts_one (qt_ne hr.r (qx (qe_dget hr.r (qx (qe_var 0)) (qx (qe_var 1)))) (qx qe_str)))) (fun _ _ _ _ _ => (qe_var 1)) (fun _ _ _ _ _ => (qe_dget hr.r (qx (qe_var 0)) (qx (qe_var 1))))))))))))
theorem fd_Promises_init (T : Tx K w mg) (hs : SysB base) (ih : OkC P w K mg base k c) : FI P w K mg base (k + 2) "Promises" (InB "Promises.__init__" st_Promises_init ["self", "powers"] (fun K => (dd_Promises_init).dvs K) (fun K => [])) (g_Promises_init c) :=
  fi_mk T.d_Promises_init T.g_Promises T.mk_Promises sc_Promises_init rfl rfl fun cdv A up s H E hr tk pw =>
    (qss_one (qs_fld ⟨T.k_Promises, T.na_Promises_named⟩ (qe_var 0) (qe_call (okf_checked ih) hr tk (qa_cons (qe_if (qt_is (qx (qe_var 1)) (qx qe_non)) (qe_frzD qd_nil) (qe_var 1)) qa_nil))))
theorem fd_all_promises (T : Tx K w mg) (hs : SysB base) (ih : OkC P w K mg base k c) : FD P w K mg base (k + 2) "all_promises" (g_all_promises c) :=
  fd_mk T.d_all_promises T.g_all_promises sc_all_promises bi_all_promises rfl rfl fun cdv A up s H E hr tk pw =>
    (qss_cons (qs_asg sc_all_promises.nd 1 (qe_frz (qf_lst (qa_cons (qe_frzD qd_nil) qa_nil)))) (qss_cons (qs_for pw rfl (qi_seq (qe_var 0)) (qg_name sc_all_promises.nd 2) (qss_cons (qs_ownN sc_all_promises.nd 3 (qn_f (qf_lst qa_nil))) (qss_cons (qs_for pw rfl (qi_seq (qe_var 1)) (qg_name sc_all_promises.nd 4) (qss_one (qs_for pw rfl (qi_seq (qe_con T.c_POWERS)) (qg_name sc_all_promises.nd 5) (qss_cons (qs_ownN sc_all_promises.nd 6 (qn_d (qd_copy T.f_dict (qxs_cons (qx (qe_var 4)) qxs_nil)))) (qss_cons (qs_if (qt_ne hr.r (qx (qe_var 5)) (qx qe_str)) (qss_one (qs_dputO hr.r 6 (qe_var 2) (qe_var 5))) qss_nil) (qss_fz 6 (qss_one (qs_ownM 3 PySem.F.slot_list_append PySem.F.type_list_append mt_append owns_app (qa_cons (qe_var 6) qa_nil))))))))) (qss_fz 3 (qss_one (qs_asg sc_all_promises.nd 1 (qe_var 3))))))) (qss_one (qs_ret (qe_frz (qf_lc (own := [("row", 4)]) rfl sc_all_promises.nd (qi_seq (qe_var 1)) (blkOk_by (own := [("row", 4)]) (N := ["signs", "rows", "sign", "longer", "row", "power", "more"]) (sc := defScope st_all_promises) (by decide +kernel)) (fun _ _ _ _ _ => (qg_name sc_all_promises.nd 4)) (fun _ _ _ _ _ => qts_nil) (fun _ _ _ _ _ => (qe_mkH (FI.fk (okf_Promises_init ih) (pb_Promises_1 _)) hr takesW0 (qa_cons (qe_var 4) qa_nil)))))))))
theorem fd_Promises_getitem (T : Tx K w mg) (hs : SysB base) (ih : OkC P w K mg base k c) : FM P w K mg base (k + 2) "Promises" "__getitem__" [] (g_Promises_getitem c) :=
  fm_mk T.d_Promises_getitem T.k_Promises T.m_Promises_getitem sc_Promises_getitem bi_Promises_getitem rfl rfl fun cdv A up s H E hr tk pw =>
    (qss_one (qs_ret (qe_get2 hr.r (qe_fld ⟨T.k_Promises, T.na_Promises_named⟩ (qe_var 0)) (qe_var 1) qe_str)))
theorem fd_is_at_most (T : Tx K w mg) (hs : SysB base) (ih : OkC P w K mg base k c) : FD P w K mg base (k + 2) "is_at_most" (g_is_at_most c) :=
  fd_mk T.d_is_at_most T.g_is_at_most sc_is_at_most bi_is_at_most rfl rfl fun cdv A up s H E hr tk pw =>
    (qss_cons (qs_if (qt_w (qw_or (qt_eq hr.r (qx (qe_var 0)) (qx (qe_var 1))) (qw_or (qt_eq hr.r (qx (qe_var 0)) (qx qe_str)) (qw_or1 (qt_eq hr.r (qx (qe_var 1)) (qx qe_str)))))) (qss_one (qs_ret qe_bl)) qss_nil) (qss_one (qs_ret (qe_and (qe_eq hr.r (qx (qe_var 0)) (qx qe_str)) (qe_one (qe_ne hr.r (qx (qe_var 1)) (qx qe_str)))))))
theorem fd_Promises_powers (T : Tx K w mg) (hs : SysB base) (ih : OkC P w K mg base k c) : FM P w K mg base (k + 2) "Promises" "powers" [] (g_Promises_powers c) :=
  fm_mk T.d_Promises_powers T.k_Promises T.m_Promises_powers sc_Promises_powers bi_Promises_powers rfl rfl fun cdv A up s H E hr tk pw =>
    (qss_one (qs_ret (qe_frzD (qd_dc (own := [("sign", 1)]) rfl sc_Promises_powers.nd (qi_seq (qe_frz (qf_srtD T.f_sorted (qxs_cons (qx (qe_fld ⟨T.k_Promises, T.na_Promises_named⟩ (qe_var 0))) qxs_nil)))) (blkOk_by (own := [("sign", 1)]) (N := ["self", "sign"]) (sc := defScope st_Promises_powers) (by decide +kernel)) (fun _ _ _ _ _ => (qg_name sc_Promises_powers.nd 1)) (fun _ _ _ _ _ => qts_nil) (fun _ _ _ _ _ => (qe_var 1)) (fun _ _ _ _ _ => (qe_dget hr.r (qx (qe_fld ⟨T.k_Promises, T.na_Promises_named⟩ (qe_var 0))) (qx (qe_var 1))))))))
theorem fd_Promises_at_most (T : Tx K w mg) (hs : SysB base) (ih : OkC P w K mg base k c) : FM P w K mg base (k + 2) "Promises" "at_most" [] (g_Promises_at_most c) :=
  fm_mk T.d_Promises_at_most T.k_Promises T.m_Promises_at_most sc_Promises_at_most bi_Promises_at_most rfl rfl fun cdv A up s H E hr tk pw =>
    (qss_cons (qs_for pw rfl (qi_seq (qe_frz (qf_srtSet T.f_sorted T.f_set (qxs_cons (qx (qe_add (qx (qe_frz (qf_keys T.f_list (qxs_cons (qx (qe_fld ⟨T.k_Promises, T.na_Promises_named⟩ (qe_var 0))) qxs_nil)))) (qx (qe_frz (qf_keys T.f_list (qxs_cons (qx (qe_meth0 (okf_Promises_powers ih) hr tk (qe_var 1))) qxs_nil)))))) qxs_nil)))) (qg_name sc_Promises_at_most.nd 2) (qss_one (qs_if (qt_not (qt_tru (qx (qe_call (okf_is_at_most ih) hr tk (qa_cons (qe_subO (okf_Promises_getitem ih) T.m_Promises_getitem T.fn_Promises_getitem hr tk (qe_var 0) (qe_var 2)) (qa_cons (qe_subO (okf_Promises_getitem ih) T.m_Promises_getitem T.fn_Promises_getitem hr tk (qe_var 1) (qe_var 2)) qa_nil)))))) (qss_one (qs_ret qe_bl)) qss_nil))) (qss_one (qs_ret qe_bl)))
theorem fd_Promises_eq (T : Tx K w mg) (hs : SysB base) (ih : OkC P w K mg base k c) : FM P w K mg base (k + 2) "Promises" "__eq__" [] (g_Promises_eq c) :=
  fm_mk T.d_Promises_eq T.k_Promises T.m_Promises_eq sc_Promises_eq bi_Promises_eq rfl rfl fun cdv A up s H E hr tk pw =>
    (qss_one (qs_ret (qe_and (qe_callB call_isi (cas_iso T.iso_Promises) T.f_isinstance (by decide +kernel) (qxs_cons (qx (qe_var 1)) (qxs_cons (qx (qe_glo T.g_Promises)) qxs_nil))) (qe_one (qe_eqDs hr.r (qx (qe_fld ⟨T.k_Promises, T.na_Promises_named⟩ (qe_var 0))) (qx (qe_fld ⟨T.k_Promises, T.na_Promises_named⟩ (qe_var 1))))))))
theorem fd_l_outside (T : Tx K w mg) (hs : SysB base) (ih : OkC P w K mg base k c) : FD P w K mg base (k + 2) "_law_outside" (g_l_outside c) :=
  fd_mk T.d_l_outside T.g_l_outside sc_l_outside bi_l_outside rfl rfl fun cdv A up s H E hr tk pw =>
    (qss_cons (qs_asg sc_l_outside.nd 2 (qe_call (okf_all_promises ih) hr tk (qa_cons (qe_var 0) qa_nil))) (qss_cons (qs_asgLc sc_l_outside.nd 3 ([("_law_one_here", 5)]) rfl sc_l_outside.nd (qi_seq (qe_var 2)) (blkOk_by (own := [("_law_one_here", 5)]) (N := ["_law_signs", "_law_tops", "_law_some_here", "_law_left", "_law_found", "_law_one_here", "_law_top", "_law_less"]) (sc := defScope st_l_outside) (by decide +kernel)) (fun _ _ _ _ _ => (qg_name sc_l_outside.nd 5)) (fun _ _ _ _ _ => (qts_one (qt_eq hr.r (qx (qe_frz (qf_lc (own := [("_law_top", 6)]) rfl sc_l_outside.nd (qi_seq (qe_var 1)) (blkOk_by (own := [("_law_top", 6)]) (N := ["_law_signs", "_law_tops", "_law_some_here", "_law_left", "_law_found", "_law_one_here", "_law_top", "_law_less"]) (sc := _) (by kernel_rfl)) (fun _ _ _ _ _ => (qg_name sc_l_outside.nd 6)) (fun _ _ _ _ _ => (qts_one (qt_tru (qx (qe_meth (okf_Promises_at_most ih) hr takesW0 (qe_var 5) (qa_cons (qe_var 6) qa_nil)))))) (fun _ _ _ _ _ => qe_int)))) (qx (qe_frz (qf_lst qa_nil)))))) (fun _ _ _ _ _ => (qe_var 5))) (qss_cons (qs_ownN sc_l_outside.nd 4 (qn_f (qf_lst qa_nil))) (qss_cons (qs_for pw rfl (qi_seq (qe_var 3)) (qg_name sc_l_outside.nd 5) (qss_one (qs_if (qt_eq hr.r (qx (qe_frz (qf_lc (own := [("_law_less", 7)]) rfl sc_l_outside.nd (qi_seq (qe_var 3)) (blkOk_by (own := [("_law_less", 7)]) (N := ["_law_signs", "_law_tops", "_law_some_here", "_law_left", "_law_found", "_law_one_here", "_law_top", "_law_less"]) (sc := defScope st_l_outside) (by decide +kernel)) (fun _ _ _ _ _ => (qg_name sc_l_outside.nd 7)) (fun _ _ _ _ _ => (qts_one (qt_w (qw_and (qt_neO T.eq_Promises (okf_Promises_eq ih) hr (qe_var 7) (qe_var 5)) (qw_and1 (qt_tru (qx (qe_meth (okf_Promises_at_most ih) hr takesW0 (qe_var 7) (qa_cons (qe_var 5) qa_nil))))))))) (fun _ _ _ _ _ => qe_int)))) (qx (qe_frz (qf_lst qa_nil)))) (qss_one (qs_ownM 4 PySem.F.slot_list_append PySem.F.type_list_append mt_append owns_app (qa_cons (qe_var 5) qa_nil))) qss_nil))) (qss_fz 4 (qss_one (qs_ret (qe_var 4))))))))
theorem fd_l_take (T : Tx K w mg) (hs : SysB base) (ih : OkC P w K mg base k c) : FD P w K mg base (k + 2) "_law_take" (g_l_take c) :=
  fd_mk T.d_l_take T.g_l_take sc_l_take bi_l_take rfl rfl fun cdv A up s H E hr tk pw =>
    (qss_cons (qs_if (qt_eq hr.r (qx (qe_ix (qx (qe_var 0)) (qx qe_int))) (qx qe_int)) (qss_cons (qs_asg sc_l_take.nd 2 qe_int) (qss_cons (qs_if (qt_lt (qx (qe_ix (qx (qe_var 0)) (qx qe_int))) (qx (qe_callB call_len cas_len T.f_len (by decide +kernel) (qxs_cons (qx (qe_ix (qx (qe_var 0)) (qx qe_int))) qxs_nil)))) (qss_one (qs_asg sc_l_take.nd 2 (qe_ix (qx (qe_ix (qx (qe_var 0)) (qx qe_int))) (qx (qe_ix (qx (qe_var 0)) (qx qe_int)))))) qss_nil) (qss_cons (qs_augI ip_add ips_add (qe_var 0) qe_int qe_int) (qss_cons (qs_if (qt_ge (qx (qe_var 2)) (qx qe_int)) (qss_one (qs_setI (qe_var 0) qe_int (qe_var 2))) qss_nil) (qss_cons (qs_asg sc_l_take.nd 3 (qe_add (qx (qe_add (qx (qe_mul (qx (qe_ix (qx (qe_var 0)) (qx qe_int))) (qx qe_int))) (qx (qe_mod (qx (qe_callTy call_int1 cas_int T.f_int (by decide +kernel) (qxs_cons (qx (qe_var 2)) qxs_nil))) (qx qe_int))))) (qx (qe_mul (qx qe_int) (qx (qe_ix (qx (qe_var 0)) (qx qe_int))))))) (qss_one (qs_setI (qe_var 0) qe_int (qe_mod (qx (qe_callTy call_int1 cas_int T.f_int (by decide +kernel) (qxs_cons (qx (qe_var 3)) qxs_nil))) (qx qe_int))))))))) qss_nil) (qss_cons (qs_if (qt_gt (qx (qe_ix (qx (qe_var 0)) (qx qe_int))) (qx qe_int)) (qss_cons (qs_asg sc_l_take.nd 4 (qe_mod (qx (qe_callTy call_int1 cas_int T.f_int (by decide +kernel) (qxs_cons (qx (qe_ix (qx (qe_var 0)) (qx qe_int))) qxs_nil))) (qx (qe_var 1)))) (qss_cons (qs_setI (qe_var 0) qe_int (qe_fdiv (qx (qe_callTy call_int1 cas_int T.f_int (by decide +kernel) (qxs_cons (qx (qe_ix (qx (qe_var 0)) (qx qe_int))) qxs_nil))) (qx (qe_var 1)))) (qss_one (qs_ret (qe_var 4))))) qss_nil) (qss_cons (qs_asg sc_l_take.nd 5 (qe_mod (qx (qe_callTy call_int1 cas_int T.f_int (by decide +kernel) (qxs_cons (qx (qe_mul (qx (qe_add (qx (qe_ix (qx (qe_var 0)) (qx qe_int))) (qx qe_int))) (qx qe_int))) qxs_nil))) (qx qe_int))) (qss_cons (qs_asg sc_l_take.nd 6 (qe_mod (qx (qe_callTy call_int1 cas_int T.f_int (by decide +kernel) (qxs_cons (qx (qe_mul (qx (qe_mod (qx (qe_callTy call_int1 cas_int T.f_int (by decide +kernel) (qxs_cons (qx (qe_mul (qx (qe_var 5)) (qx (qe_var 5)))) qxs_nil))) (qx qe_int))) (qx qe_int))) qxs_nil))) (qx qe_int))) (qss_one (qs_ret (qe_mod (qx (qe_callTy call_int1 cas_int T.f_int (by decide +kernel) (qxs_cons (qx (qe_fdiv (qx (qe_var 6)) (qx qe_int))) qxs_nil))) (qx (qe_var 1)))))))))
theorem fd_l_mixed (T : Tx K w mg) (hs : SysB base) (ih : OkC P w K mg base k c) : FD P w K mg base (k + 2) "_law_mixed" (g_l_mixed c) :=
  fd_mk T.d_l_mixed T.g_l_mixed sc_l_mixed bi_l_mixed rfl rfl fun cdv A up s H E hr tk pw =>
    (qss_cons (qs_ownN sc_l_mixed.nd 2 (qn_f (qf_lst qa_nil))) (qss_cons (qs_for pw rfl (qi_seq (qe_var 1)) (qg_name sc_l_mixed.nd 3) (qss_one (qs_ownM 2 PySem.F.slot_list_insert PySem.F.type_list_insert mt_insert owns_ins (qa_cons (qe_call (okf_l_take ih) hr tk (qa_cons (qe_var 0) (qa_cons (qe_add (qx (qe_callB call_len cas_len T.f_len (by decide +kernel) (qxs_cons (qx_any 2) qxs_nil))) (qx qe_int)) qa_nil))) (qa_cons (qe_var 3) qa_nil))))) (qss_fz 2 (qss_one (qs_ret (qe_var 2))))))
theorem fd_l_one (T : Tx K w mg) (hs : SysB base) (ih : OkC P w K mg base k c) : FD P w K mg base (k + 2) "_law_one" (g_l_one c) :=
  fd_mk T.d_l_one T.g_l_one sc_l_one bi_l_one rfl rfl fun cdv A up s H E hr tk pw =>
    (qss_one (qs_ret (qe_ix (qx (qe_var 1)) (qx (qe_call (okf_l_take ih) hr tk (qa_cons (qe_var 0) (qa_cons (qe_callB call_len cas_len T.f_len (by decide +kernel) (qxs_cons (qx (qe_var 1)) qxs_nil)) qa_nil)))))))
theorem fd_l_some (T : Tx K w mg) (hs : SysB base) (ih : OkC P w K mg base k c) : FD P w K mg base (k + 2) "_law_some" (g_l_some c) :=
  fd_mk T.d_l_some T.g_l_some sc_l_some bi_l_some rfl rfl fun cdv A up s H E hr tk pw =>
    (qss_one (qs_ret (qe_mkH (FI.fk (okf_Promises_init ih) (pb_Promises_1 _)) hr tk (qa_cons (qe_frzD (qd_dict T.f_dict (qxs_cons (qx (qe_frz (qf_lc (own := [("_law_sign", 2)]) rfl sc_l_some.nd (qi_seq (qe_var 1)) (blkOk_by (own := [("_law_sign", 2)]) (N := ["_law_bag_here", "_law_signs", "_law_sign"]) (sc := defScope st_l_some) (by decide +kernel)) (fun _ _ _ _ _ => (qg_name sc_l_some.nd 2)) (fun _ _ _ _ _ => qts_nil) (fun _ _ _ _ _ => (qe_tup (qa_cons (qe_var 2) (qa_cons (qe_call (okf_l_one ih) hr takesW0 (qa_cons (qe_var 0) (qa_cons (qe_con T.c_POWERS) qa_nil))) qa_nil))))))) qxs_nil))) qa_nil))))
theorem fd_Promises_setitem (T : Tx K w mg) (hs : SysB base) (ih : OkC P w K mg base k c) : FM P w K mg base (k + 2) "Promises" "__setitem__" [] (g_Promises_setitem c) :=
  fm_mk T.d_Promises_setitem T.k_Promises T.m_Promises_setitem sc_Promises_setitem bi_Promises_setitem rfl rfl fun cdv A up s H E hr tk pw =>
    (qss_cons (qs_if (qt_not (qt_tru (qx (qe_call (okf_is_promise ih) hr tk (qa_cons (qe_var 1) (qa_cons (qe_var 2) qa_nil)))))) (qss_one qs_never) qss_nil) (qss_cons (qs_expr (qe_pop2 (qe_fld ⟨T.k_Promises, T.na_Promises_named⟩ (qe_var 0)) (qe_var 1) qe_non)) (qss_one (qs_if (qt_ne hr.r (qx (qe_var 2)) (qx qe_str)) (qss_one (qs_dputH hr.r (qe_fld ⟨T.k_Promises, T.na_Promises_named⟩ (qe_var 0)) (qe_var 1) (qe_var 2))) qss_nil))))
theorem fd_Promises_copied (T : Tx K w mg) (hs : SysB base) (ih : OkC P w K mg base k c) : FM P w K mg base (k + 2) "Promises" "copied" [] (g_Promises_copied c) :=
  fm_mk T.d_Promises_copied T.k_Promises T.m_Promises_copied sc_Promises_copied bi_Promises_copied rfl rfl fun cdv A up s H E hr tk pw =>
    (qss_one (qs_ret (qe_mkH (FI.fk (okf_Promises_init ih) (pb_Promises_1 _)) hr tk (qa_cons (qe_fld ⟨T.k_Promises, T.na_Promises_named⟩ (qe_var 0)) qa_nil))))
theorem fd_l_spoilt (T : Tx K w mg) (hs : SysB base) (ih : OkC P w K mg base k c) : FD P w K mg base (k + 2) "_law_spoilt" (g_l_spoilt c) :=
  fd_mk T.d_l_spoilt T.g_l_spoilt sc_l_spoilt bi_l_spoilt rfl rfl fun cdv A up s H E hr tk pw =>
    (qss_cons (qs_par rfl sc_l_spoilt.nd 3 4 (qa_cons (qe_call (okf_l_take ih) hr tk (qa_cons (qe_var 0) (qa_cons qe_int qa_nil))) (qa_cons (qe_call (okf_l_take ih) hr tk (qa_cons (qe_var 0) (qa_cons (qe_add (qx (qe_callB call_len cas_len T.f_len (by decide +kernel) (qxs_cons (qx (qe_var 2)) qxs_nil))) (qx qe_int)) qa_nil))) qa_nil))) (qss_cons (qs_if (qt_w (qw_or (qt_eq hr.r (qx (qe_var 3)) (qx qe_int)) (qw_or1 (qt_eq hr.r (qx (qe_var 1)) (qx (qe_frz (qf_lst qa_nil))))))) (qss_one (qs_ret (qe_add (qx (qe_cut (qx (qe_var 2)) qo_none (qo_some (qe_var 4)))) (qx (qe_cut (qx (qe_var 2)) (qo_some (qe_add (qx (qe_var 4)) (qx qe_int))) qo_none))))) qss_nil) (qss_cons (qs_if (qt_w (qw_or (qt_eq hr.r (qx (qe_var 3)) (qx qe_int)) (qw_or1 (qt_eq hr.r (qx (qe_var 4)) (qx (qe_callB call_len cas_len T.f_len (by decide +kernel) (qxs_cons (qx (qe_var 2)) qxs_nil))))))) (qss_one (qs_ret (qe_add (qx (qe_add (qx (qe_cut (qx (qe_var 2)) qo_none (qo_some (qe_var 4)))) (qx (qe_frz (qf_lst (qa_cons (qe_call (okf_l_some ih) hr tk (qa_cons (qe_var 0) (qa_cons (qe_add (qx (qe_var 1)) (qx (qe_rep (qx (qe_frz (qf_lst (qa_cons qe_str qa_nil)))) (qx (qe_call (okf_l_take ih) hr tk (qa_cons (qe_var 0) (qa_cons qe_int qa_nil))))))) qa_nil))) qa_nil)))))) (qx (qe_cut (qx (qe_var 2)) (qo_some (qe_var 4)) qo_none))))) qss_nil) (qss_cons (qs_asg sc_l_spoilt.nd 5 (qe_meth0 (okf_Promises_copied ih) hr tk (qe_ix (qx (qe_var 2)) (qx (qe_var 4))))) (qss_cons (qs_putO (okf_Promises_setitem ih) T.ow_Promises hr (qe_var 5) (qe_call (okf_l_one ih) hr tk (qa_cons (qe_var 0) (qa_cons (qe_var 1) qa_nil))) (qe_call (okf_l_one ih) hr tk (qa_cons (qe_var 0) (qa_cons (qe_con T.c_POWERS) qa_nil)))) (qss_one (qs_ret (qe_add (qx (qe_add (qx (qe_cut (qx (qe_var 2)) qo_none (qo_some (qe_var 4)))) (qx (qe_frz (qf_lst (qa_cons (qe_var 5) qa_nil)))))) (qx (qe_cut (qx (qe_var 2)) (qo_some (qe_add (qx (qe_var 4)) (qx qe_int))) qo_none))))))))))
theorem fd_l_truth (T : Tx K w mg) (hs : SysB base) (ih : OkC P w K mg base k c) : FD P w K mg base (k + 2) "_law_truth" (g_l_truth c) :=
  fd_mk T.d_l_truth T.g_l_truth sc_l_truth bi_l_truth rfl rfl fun cdv A up s H E hr tk pw =>
    (qss_one (qs_ret (qe_and (qe_or (qe_is (qx (qe_var 0)) (qx qe_bl)) (qe_one (qe_is (qx (qe_var 0)) (qx qe_bl)))) (qe_one (qe_eq hr.r (qx (qe_var 0)) (qx (qe_var 1)))))))
theorem fd_is_border (T : Tx K w mg) (hs : SysB base) (ih : OkC P w K mg base k c) : FD P w K mg base (k + 2) "is_border" (g_is_border c) :=
  fd_mk T.d_is_border T.g_is_border sc_is_border bi_is_border rfl rfl fun cdv A up s H E hr tk pw =>
    (qss_cons (qs_for pw rfl (qi_seq (qe_call (okf_all_promises ih) hr tk (qa_cons (qe_var 0) qa_nil))) (qg_name sc_is_border.nd 3) (qss_cons (qs_asg sc_is_border.nd 4 (qe_ne hr.r (qx (qe_frz (qf_lc (own := [("one", 6)]) rfl sc_is_border.nd (qi_seq (qe_var 1)) (blkOk_by (own := [("one", 6)]) (N := ["signs", "greatest", "least", "promises", "below", "above", "one"]) (sc := defScope st_is_border) (by decide +kernel)) (fun _ _ _ _ _ => (qg_name sc_is_border.nd 6)) (fun _ _ _ _ _ => (qts_one (qt_tru (qx (qe_meth (okf_Promises_at_most ih) hr takesW0 (qe_var 3) (qa_cons (qe_var 6) qa_nil)))))) (fun _ _ _ _ _ => qe_int)))) (qx (qe_frz (qf_lst qa_nil))))) (qss_cons (qs_asg sc_is_border.nd 5 (qe_ne hr.r (qx (qe_frz (qf_lc (own := [("one", 6)]) rfl sc_is_border.nd (qi_seq (qe_var 2)) (blkOk_by (own := [("one", 6)]) (N := ["signs", "greatest", "least", "promises", "below", "above", "one"]) (sc := defScope st_is_border) (by decide +kernel)) (fun _ _ _ _ _ => (qg_name sc_is_border.nd 6)) (fun _ _ _ _ _ => (qts_one (qt_tru (qx (qe_meth (okf_Promises_at_most ih) hr takesW0 (qe_var 6) (qa_cons (qe_var 3) qa_nil)))))) (fun _ _ _ _ _ => qe_int)))) (qx (qe_frz (qf_lst qa_nil))))) (qss_one (qs_if (qt_eq hr.r (qx (qe_var 4)) (qx (qe_var 5))) (qss_one (qs_ret qe_bl)) qss_nil))))) (qss_one (qs_ret qe_bl)))
theorem fd_l_due (T : Tx K w mg) (hs : SysB base) (ih : OkC P w K mg base k c) : FD P w K mg base (k + 2) "_law_due" (g_l_due c) :=
  fd_mk T.d_l_due T.g_l_due sc_l_due bi_l_due rfl rfl fun cdv A up s H E hr tk pw =>
    (qss_cons (qs_for pw rfl (qi_seq (qe_call (okf_all_promises ih) hr tk (qa_cons (qe_var 0) qa_nil))) (qg_name sc_l_due.nd 3) (qss_cons (qs_asg sc_l_due.nd 4 (qe_ne hr.r (qx (qe_frz (qf_lc (own := [("_law_top", 6)]) rfl sc_l_due.nd (qi_seq (qe_var 1)) (blkOk_by (own := [("_law_top", 6)]) (N := ["_law_signs", "_law_tops", "_law_bottoms", "_law_one_here", "_law_below", "_law_above", "_law_top", "_law_bottom"]) (sc := defScope st_l_due) (by decide +kernel)) (fun _ _ _ _ _ => (qg_name sc_l_due.nd 6)) (fun _ _ _ _ _ => (qts_one (qt_tru (qx (qe_meth (okf_Promises_at_most ih) hr takesW0 (qe_var 3) (qa_cons (qe_var 6) qa_nil)))))) (fun _ _ _ _ _ => (qe_var 6))))) (qx (qe_frz (qf_lst qa_nil))))) (qss_cons (qs_asg sc_l_due.nd 5 (qe_ne hr.r (qx (qe_frz (qf_lc (own := [("_law_bottom", 7)]) rfl sc_l_due.nd (qi_seq (qe_var 2)) (blkOk_by (own := [("_law_bottom", 7)]) (N := ["_law_signs", "_law_tops", "_law_bottoms", "_law_one_here", "_law_below", "_law_above", "_law_top", "_law_bottom"]) (sc := defScope st_l_due) (by decide +kernel)) (fun _ _ _ _ _ => (qg_name sc_l_due.nd 7)) (fun _ _ _ _ _ => (qts_one (qt_tru (qx (qe_meth (okf_Promises_at_most ih) hr takesW0 (qe_var 7) (qa_cons (qe_var 3) qa_nil)))))) (fun _ _ _ _ _ => (qe_var 7))))) (qx (qe_frz (qf_lst qa_nil))))) (qss_one (qs_if (qt_eq hr.r (qx (qe_var 4)) (qx (qe_var 5))) (qss_one (qs_ret qe_bl)) qss_nil))))) (qss_one (qs_ret qe_bl)))
theorem fd_l_go (T : Tx K w mg) (hs : SysB base) (ih : OkC P w K mg base k c) : FD P w K mg base (k + 2) "_law_go" (g_l_go c) :=
  fd_mk T.d_l_go T.g_l_go sc_l_go bi_l_go rfl rfl fun cdv A up s H E hr tk pw =>
    (qss_cons (qs_asg sc_l_go.nd 1 (qe_cut (qx (qe_call (okf_l_mixed ih) hr tk (qa_cons (qe_var 0) (qa_cons (qe_frz (qf_lst (qa_cons qe_str (qa_cons qe_str (qa_cons qe_str (qa_cons qe_str qa_nil)))))) qa_nil)))) qo_none (qo_some (qe_ix (qx (qe_frz (qf_lst (qa_cons qe_int (qa_cons qe_int (qa_cons qe_int (qa_cons qe_int (qa_cons qe_int (qa_cons qe_int qa_nil))))))))) (qx (qe_call (okf_l_take ih) hr tk (qa_cons (qe_var 0) (qa_cons qe_int qa_nil)))))))) (qss_cons (qs_asgLc sc_l_go.nd 2 ([("_law_k", 6)]) rfl sc_l_go.nd (qi_range1 T.f_range (qa_cons (qe_call (okf_l_take ih) hr tk (qa_cons (qe_var 0) (qa_cons qe_int qa_nil))) qa_nil)) (blkOk_by (own := [("_law_k", 6)]) (N := ["_law_bag_here", "_law_signs", "_law_tops", "_law_bottoms", "_law_words", "_law_given", "_law_k", "_law_one_here"]) (sc := defScope st_l_go) (by decide +kernel)) (fun _ _ _ _ _ => (qg_name sc_l_go.nd 6)) (fun _ _ _ _ _ => qts_nil) (fun _ _ _ _ _ => (qe_call (okf_l_some ih) hr takesW0 (qa_cons (qe_var 0) (qa_cons (qe_var 1) qa_nil))))) (qss_cons (qs_asg sc_l_go.nd 3 (qe_call (okf_l_outside ih) hr tk (qa_cons (qe_var 1) (qa_cons (qe_var 2) qa_nil)))) (qss_cons (qs_if (qt_eq hr.r (qx (qe_call (okf_l_take ih) hr tk (qa_cons (qe_var 0) (qa_cons qe_int qa_nil)))) (qx qe_int)) (qss_one (qs_asgLc sc_l_go.nd 3 ([("_law_k", 6)]) rfl sc_l_go.nd (qi_range1 T.f_range (qa_cons (qe_call (okf_l_take ih) hr tk (qa_cons (qe_var 0) (qa_cons qe_int qa_nil))) qa_nil)) (blkOk_by (own := [("_law_k", 6)]) (N := ["_law_bag_here", "_law_signs", "_law_tops", "_law_bottoms", "_law_words", "_law_given", "_law_k", "_law_one_here"]) (sc := defScope st_l_go) (by decide +kernel)) (fun _ _ _ _ _ => (qg_name sc_l_go.nd 6)) (fun _ _ _ _ _ => qts_nil) (fun _ _ _ _ _ => (qe_call (okf_l_some ih) hr takesW0 (qa_cons (qe_var 0) (qa_cons (qe_var 1) qa_nil)))))) qss_nil) (qss_cons (qs_if (qt_eq hr.r (qx (qe_call (okf_l_take ih) hr tk (qa_cons (qe_var 0) (qa_cons qe_int qa_nil)))) (qx qe_int)) (qss_one (qs_if (qt_eq hr.r (qx (qe_call (okf_l_take ih) hr tk (qa_cons (qe_var 0) (qa_cons qe_int qa_nil)))) (qx qe_int)) (qss_one (qs_asg sc_l_go.nd 2 (qe_call (okf_l_spoilt ih) hr tk (qa_cons (qe_var 0) (qa_cons (qe_var 1) (qa_cons (qe_var 2) qa_nil)))))) (qss_one (qs_asg sc_l_go.nd 3 (qe_call (okf_l_spoilt ih) hr tk (qa_cons (qe_var 0) (qa_cons (qe_var 1) (qa_cons (qe_var 3) qa_nil)))))))) qss_nil) (qss_cons (qs_par rfl sc_l_go.nd 2 3 (qa_cons (qe_call (okf_l_mixed ih) hr tk (qa_cons (qe_var 0) (qa_cons (qe_var 2) qa_nil))) (qa_cons (qe_call (okf_l_mixed ih) hr tk (qa_cons (qe_var 0) (qa_cons (qe_var 3) qa_nil))) qa_nil))) (qss_cons (qs_asg sc_l_go.nd 4 (qe_frz (qf_lst (qa_cons (qe_frz (qf_lc (own := [("_law_one_here", 7)]) rfl sc_l_go.nd (qi_seq (qe_var 2)) (blkOk_by (own := [("_law_one_here", 7)]) (N := ["_law_bag_here", "_law_signs", "_law_tops", "_law_bottoms", "_law_words", "_law_given", "_law_k", "_law_one_here"]) (sc := defScope st_l_go) (by decide +kernel)) (fun _ _ _ _ _ => (qg_name sc_l_go.nd 7)) (fun _ _ _ _ _ => qts_nil) (fun _ _ _ _ _ => (qe_meth0 (okf_Promises_powers ih) hr takesW0 (qe_var 7))))) (qa_cons (qe_frz (qf_lc (own := [("_law_one_here", 7)]) rfl sc_l_go.nd (qi_seq (qe_var 3)) (blkOk_by (own := [("_law_one_here", 7)]) (N := ["_law_bag_here", "_law_signs", "_law_tops", "_law_bottoms", "_law_words", "_law_given", "_law_k", "_law_one_here"]) (sc := defScope st_l_go) (by decide +kernel)) (fun _ _ _ _ _ => (qg_name sc_l_go.nd 7)) (fun _ _ _ _ _ => qts_nil) (fun _ _ _ _ _ => (qe_meth0 (okf_Promises_powers ih) hr takesW0 (qe_var 7))))) qa_nil))))) (qss_cons (qs_asg sc_l_go.nd 5 (qe_callTy call_list_of cas_list T.f_list (by decide +kernel) (qxs_cons (qx (qe_var 1)) qxs_nil))) (qss_cons (qs_if (qt_w (qw_or (qt_not (qt_tru (qx (qe_call (okf_l_truth ih) hr tk (qa_cons (qe_call (okf_is_border ih) hr tk (qa_cons (qe_var 5) (qa_cons (qe_var 2) (qa_cons (qe_var 3) qa_nil)))) (qa_cons (qe_call (okf_l_due ih) hr tk (qa_cons (qe_var 1) (qa_cons (qe_var 2) (qa_cons (qe_var 3) qa_nil)))) qa_nil)))))) (qw_or1 (qt_ne hr.r (qx (qe_var 5)) (qx (qe_var 1)))))) (qss_one (qs_ret qe_bl)) qss_nil) (qss_one (qs_ret (qe_eqV hr.r.units (qx (qe_var 4)) (qx (qe_frz (qf_lst (qa_cons (qe_frz (qf_lc (own := [("_law_one_here", 7)]) rfl sc_l_go.nd (qi_seq (qe_var 2)) (blkOk_by (own := [("_law_one_here", 7)]) (N := ["_law_bag_here", "_law_signs", "_law_tops", "_law_bottoms", "_law_words", "_law_given", "_law_k", "_law_one_here"]) (sc := defScope st_l_go) (by decide +kernel)) (fun _ _ _ _ _ => (qg_name sc_l_go.nd 7)) (fun _ _ _ _ _ => qts_nil) (fun _ _ _ _ _ => (qe_meth0 (okf_Promises_powers ih) hr takesW0 (qe_var 7))))) (qa_cons (qe_frz (qf_lc (own := [("_law_one_here", 7)]) rfl sc_l_go.nd (qi_seq (qe_var 3)) (blkOk_by (own := [("_law_one_here", 7)]) (N := ["_law_bag_here", "_law_signs", "_law_tops", "_law_bottoms", "_law_words", "_law_given", "_law_k", "_law_one_here"]) (sc := defScope st_l_go) (by decide +kernel)) (fun _ _ _ _ _ => (qg_name sc_l_go.nd 7)) (fun _ _ _ _ _ => qts_nil) (fun _ _ _ _ _ => (qe_meth0 (okf_Promises_powers ih) hr takesW0 (qe_var 7))))) qa_nil)))))))))))))))))
theorem fd_law (T : Tx K w mg) (hs : SysB base) (ih : OkC P w K mg base k c) : FD P w K mg base (k + 2) "law" (g_law c) :=
  fd_mk T.d_law T.g_law sc_law bi_law rfl rfl fun cdv A up s H E hr tk pw =>
    (qss_cons (qs_asg sc_law.nd 1 (qe_call (okf_l_bag ih) hr tk (qa_cons (qe_var 0) qa_nil))) (qss_cons (qs_for pw rfl (qi_range1 T.f_range (qa_cons qe_int qa_nil)) (qg_name sc_law.nd 2) (qss_one (qs_if (qt_not (qt_tru (qx (qe_call (okf_l_go ih) hr tk (qa_cons (qe_var 1) qa_nil))))) (qss_one (qs_ret qe_bl)) qss_nil))) (qss_one (qs_ret qe_bl))))
end
section
variable {P : Program} {w : World} {K : PySem.W.Frag} {mg : Str → Option Value} {base : Heap}
theorem all_ok (T : Tx K w mg) (hs : SysB base) : ∀ n, OkC P w K mg base (2 * n) (calls n)
  | 0 => fun f => match f with
    | .l_bag => fd_no T.d_l_bag T.g_l_bag bi_l_bag
    | .is_made_of => fd_no T.d_is_made_of T.g_is_made_of bi_is_made_of
    | .is_own_name => fd_no T.d_is_own_name T.g_is_own_name bi_is_own_name
    | .is_sign => fd_no T.d_is_sign T.g_is_sign bi_is_sign
    | .is_promise => fd_no T.d_is_promise T.g_is_promise bi_is_promise
    | .checked => fd_no T.d_checked T.g_checked bi_checked
    | .Promises_init => fi_no T.d_Promises_init T.g_Promises T.mk_Promises
    | .all_promises => fd_no T.d_all_promises T.g_all_promises bi_all_promises
    | .Promises_getitem => fm_no T.d_Promises_getitem T.k_Promises T.m_Promises_getitem bi_Promises_getitem
    | .is_at_most => fd_no T.d_is_at_most T.g_is_at_most bi_is_at_most
    | .Promises_powers => fm_no T.d_Promises_powers T.k_Promises T.m_Promises_powers bi_Promises_powers
    | .Promises_at_most => fm_no T.d_Promises_at_most T.k_Promises T.m_Promises_at_most bi_Promises_at_most
    | .Promises_eq => fm_no T.d_Promises_eq T.k_Promises T.m_Promises_eq bi_Promises_eq
    | .l_outside => fd_no T.d_l_outside T.g_l_outside bi_l_outside
    | .l_take => fd_no T.d_l_take T.g_l_take bi_l_take
    | .l_mixed => fd_no T.d_l_mixed T.g_l_mixed bi_l_mixed
    | .l_one => fd_no T.d_l_one T.g_l_one bi_l_one
    | .l_some => fd_no T.d_l_some T.g_l_some bi_l_some
    | .Promises_setitem => fm_no T.d_Promises_setitem T.k_Promises T.m_Promises_setitem bi_Promises_setitem
    | .Promises_copied => fm_no T.d_Promises_copied T.k_Promises T.m_Promises_copied bi_Promises_copied
    | .l_spoilt => fd_no T.d_l_spoilt T.g_l_spoilt bi_l_spoilt
    | .l_truth => fd_no T.d_l_truth T.g_l_truth bi_l_truth
    | .is_border => fd_no T.d_is_border T.g_is_border bi_is_border
    | .l_due => fd_no T.d_l_due T.g_l_due bi_l_due
    | .l_go => fd_no T.d_l_go T.g_l_go bi_l_go
    | .law => fd_no T.d_law T.g_law bi_law
  | n + 1 => fun f => match f with
    | .l_bag => fd_l_bag T hs (all_ok T hs n)
    | .is_made_of => fd_is_made_of T hs (all_ok T hs n)
    | .is_own_name => fd_is_own_name T hs (all_ok T hs n)
    | .is_sign => fd_is_sign T hs (all_ok T hs n)
    | .is_promise => fd_is_promise T hs (all_ok T hs n)
    | .checked => fd_checked T hs (all_ok T hs n)
    | .Promises_init => fd_Promises_init T hs (all_ok T hs n)
    | .all_promises => fd_all_promises T hs (all_ok T hs n)
    | .Promises_getitem => fd_Promises_getitem T hs (all_ok T hs n)
    | .is_at_most => fd_is_at_most T hs (all_ok T hs n)
    | .Promises_powers => fd_Promises_powers T hs (all_ok T hs n)
    | .Promises_at_most => fd_Promises_at_most T hs (all_ok T hs n)
    | .Promises_eq => fd_Promises_eq T hs (all_ok T hs n)
    | .l_outside => fd_l_outside T hs (all_ok T hs n)
    | .l_take => fd_l_take T hs (all_ok T hs n)
    | .l_mixed => fd_l_mixed T hs (all_ok T hs n)
    | .l_one => fd_l_one T hs (all_ok T hs n)
    | .l_some => fd_l_some T hs (all_ok T hs n)
    | .Promises_setitem => fd_Promises_setitem T hs (all_ok T hs n)
    | .Promises_copied => fd_Promises_copied T hs (all_ok T hs n)
    | .l_spoilt => fd_l_spoilt T hs (all_ok T hs n)
    | .l_truth => fd_l_truth T hs (all_ok T hs n)
    | .is_border => fd_is_border T hs (all_ok T hs n)
    | .l_due => fd_l_due T hs (all_ok T hs n)
    | .l_go => fd_l_go T hs (all_ok T hs n)
    | .law => fd_law T hs (all_ok T hs n)
theorem ok_law {fd : FuncData} (T : Tx K w mg) (hs : SysB base) (F : FunD K "law" "law" (defArgs st_law) (defBody st_law) (defScope st_law) [] [] (He.ga K "law") fd) : FnG P w K mg base (2 * (20 + 1)) (He.ga K "law") fd ["_law_script"] (spD K (calls (20 + 1) .law)) :=
  have ih : OkC P w K mg base (2 * 20) (calls 20) := all_ok T hs 20
  fn_mk (k := 2 * 20 + 1) (fb := fb_law (calls 20)) F sc_law fun cdv A up s H E hr tk pw =>
    (qss_cons (qs_asg sc_law.nd 1 (qe_call (okf_l_bag ih) hr tk (qa_cons (qe_var 0) qa_nil))) (qss_cons (qs_for pw rfl (qi_range1 T.f_range (qa_cons qe_int qa_nil)) (qg_name sc_law.nd 2) (qss_one (qs_if (qt_not (qt_tru (qx (qe_call (okf_l_go ih) hr tk (qa_cons (qe_var 1) qa_nil))))) (qss_one (qs_ret qe_bl)) qss_nil))) (qss_one (qs_ret qe_bl))))
end
theorem tx_mk {K : PySem.W.Frag} {w : World} {h : Heap} {mg : Str → Option Value} (KX : K.In h) (G : h.Ns mainGlobals mg) (c : SaysN fa fn ts w K) : Tx K w mg :=
  ⟨He.free_ok KX G (c.fact 0 (f := .free "abs") rfl), He.free_ok KX G (c.fact 1 (f := .free "dict") rfl), He.free_ok KX G (c.fact 2 (f := .free "int") rfl), He.free_ok KX G (c.fact 3 (f := .free "isinstance") rfl), He.free_ok KX G (c.fact 4 (f := .free "len") rfl), He.free_ok KX G (c.fact 5 (f := .free "list") rfl), He.free_ok KX G (c.fact 6 (f := .free "range") rfl), He.free_ok KX G (c.fact 7 (f := .free "set") rfl), He.free_ok KX G (c.fact 8 (f := .free "sorted") rfl), He.free_ok KX G (c.fact 9 (f := .free "str") rfl), con_ok KX G (c.fact 10 (f := .con "LETTERS" c_LETTERS) rfl), con_ok KX G (c.fact 11 (f := .con "RESERVED" c_RESERVED) rfl), con_ok KX G (c.fact 12 (f := .con "SPLITS" c_SPLITS) rfl), con_ok KX G (c.fact 13 (f := .con "POWERS" c_POWERS) rfl), He.glo_ok KX G (c.fact 14 (f := .glo "_law_bag") rfl), He.glo_ok KX G (c.fact 15 (f := .glo "is_made_of") rfl), He.glo_ok KX G (c.fact 16 (f := .glo "is_own_name") rfl), He.glo_ok KX G (c.fact 17 (f := .glo "is_sign") rfl), He.glo_ok KX G (c.fact 18 (f := .glo "is_promise") rfl), He.glo_ok KX G (c.fact 19 (f := .glo "checked") rfl), He.glo_ok KX G (c.fact 20 (f := .glo "all_promises") rfl), He.glo_ok KX G (c.fact 21 (f := .glo "is_at_most") rfl), He.glo_ok KX G (c.fact 22 (f := .glo "_law_outside") rfl), He.glo_ok KX G (c.fact 23 (f := .glo "_law_take") rfl), He.glo_ok KX G (c.fact 24 (f := .glo "_law_mixed") rfl), He.glo_ok KX G (c.fact 25 (f := .glo "_law_one") rfl), He.glo_ok KX G (c.fact 26 (f := .glo "_law_some") rfl), He.glo_ok KX G (c.fact 27 (f := .glo "_law_spoilt") rfl), He.glo_ok KX G (c.fact 28 (f := .glo "_law_truth") rfl), He.glo_ok KX G (c.fact 29 (f := .glo "is_border") rfl), He.glo_ok KX G (c.fact 30 (f := .glo "_law_due") rfl), He.glo_ok KX G (c.fact 31 (f := .glo "_law_go") rfl), He.glo_ok KX G (c.fact 32 (f := .glo "law") rfl), He.glo_ok KX G (c.fact 33 (f := .glo "Promises") rfl), cls_f (c.fact 34 (f := faB (.cls "Promises")) rfl), mkr_f (c.fact 35 (f := faB (.mkr "Promises")) rfl), noat_f (c.fact 36 (f := faB (.noat "Promises" "named")) rfl), iso_f (c.fact 37 (f := isoB "Promises" su_Promises) rfl), fnm_f (c.fact 38 (f := fnmB "Promises" "__getitem__") rfl), eqf_f (c.fact 39 (f := eqfB "Promises") rfl), owf_f (c.fact 40 (f := owfB "Promises") rfl), meth_f (c.fact 41 (f := faB (.meth "Promises" "__getitem__")) rfl), meth_f (c.fact 42 (f := faB (.meth "Promises" "powers")) rfl), meth_f (c.fact 43 (f := faB (.meth "Promises" "at_most")) rfl), meth_f (c.fact 44 (f := faB (.meth "Promises" "__eq__")) rfl), meth_f (c.fact 45 (f := faB (.meth "Promises" "__setitem__")) rfl), meth_f (c.fact 46 (f := faB (.meth "Promises" "copied")) rfl), c.def_ 0 (d := dd_l_bag) rfl, c.def_ 1 (d := dd_is_made_of) rfl, c.def_ 2 (d := dd_is_own_name) rfl, c.def_ 3 (d := dd_is_sign) rfl, c.def_ 4 (d := dd_is_promise) rfl, c.def_ 5 (d := dd_checked) rfl, c.def_ 6 (d := dd_Promises_init) rfl, c.def_ 7 (d := dd_all_promises) rfl, c.def_ 8 (d := dd_Promises_getitem) rfl, c.def_ 9 (d := dd_is_at_most) rfl, c.def_ 10 (d := dd_Promises_powers) rfl, c.def_ 11 (d := dd_Promises_at_most) rfl, c.def_ 12 (d := dd_Promises_eq) rfl, c.def_ 13 (d := dd_l_outside) rfl, c.def_ 14 (d := dd_l_take) rfl, c.def_ 15 (d := dd_l_mixed) rfl, c.def_ 16 (d := dd_l_one) rfl, c.def_ 17 (d := dd_l_some) rfl, c.def_ 18 (d := dd_Promises_setitem) rfl, c.def_ 19 (d := dd_Promises_copied) rfl, c.def_ 20 (d := dd_l_spoilt) rfl, c.def_ 21 (d := dd_l_truth) rfl, c.def_ 22 (d := dd_is_border) rfl, c.def_ 23 (d := dd_l_due) rfl, c.def_ 24 (d := dd_l_go) rfl, c.def_ 25 (d := dd_law) rfl⟩
end Row
open PySem PySem.W PySem.Calls PyProof.Rows
theorem PySem.Challenge.cw_foundtwice_k65_is_border_both_ways_holds : PySem.Challenge.rw_foundtwice_k65_is_border_both_ways.Holds := by
  w_on; o_law
  refine HandSHeadRun.head_any (r := OpenLaw.row PySem.Challenge.rw_foundtwice_k65_is_border_both_ways) (q := view (OpenLaw.row PySem.Challenge.rw_foundtwice_k65_is_border_both_ways).prog [32]) (H := Row.hk) (ob := Row.ob) (M := 20000) (loose := Row.loose) (d := HandSHeadRun.topDef (OpenLaw.row PySem.Challenge.rw_foundtwice_k65_is_border_both_ways).prog 32) (kwd := []) Row.ob_eq
    (by kernel_rfl) (fun s => by kernel_rfl) Row.run (by kernel_rfl) (by kernel_rfl) (by kernel_rfl) (by rfl) (by first | assumption | decide +kernel) (by decide +kernel) ⟨rfl, rfl, rfl, rfl, rfl, by decide +kernel⟩ ?hw ?hc
  case hw => w_witness2
  case hc =>
    refine DL.walk_g (l := PySem.Challenge.rw_foundtwice_k65_is_border_both_ways) (n := 63) (k := 2 * (20 + 1)) (x := "_law_script") rfl (by decide) (by kernel_rfl) (by kernel_rfl) ⟨⟨rfl, by decide, by decide⟩, rfl⟩ ?F
    intro w mg fa h Y G hmg0
    obtain ⟨K, KX, c⟩ := Y
    have hmg : mg ("law" : PySem.Str) = some (.ref fa) := by
      have e : (HandSHeadRun.topDef (OpenLaw.row PySem.Challenge.rw_foundtwice_k65_is_border_both_ways).prog 32).name = ("law" : PySem.Str) := by kernel_rfl
      rw [← e]
      exact hmg0
    have T := Row.tx_mk KX G c
    have e := hmg.symm.trans T.g_law
    cases e
    obtain ⟨fd, F⟩ := T.d_law
    have b := L2.FunD.bindsA (ps := ["_law_script"]) F fun _ _ _ _ _ _ us hl => match us, hl with | [_], _ => rfl
    exact ⟨K, fd, DL.spD K (DL.calls (20 + 1) .law), KX, fun s v => b s [v] rfl, fun H a ns hl hS => DL.law_end DL.law_true H a ns hl hS, fun base _ _ hs => Row.ok_law T hs F⟩
