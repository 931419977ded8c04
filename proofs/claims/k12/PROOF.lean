import PyProof.Rows.All
import Wide.All
import OpenK.AllK
import Wide.FinOn
import HandS.ForMost
import HandS.Exc
import HandS.Defaults
import HandS.IsInst
import HandS.Flow
import HandS.Wide
import HandS.Codes
import HandS.TupAny
import HandS.Style
import HandS.CallSlots
import HandS.HeadHook1
import HandS.HeadHook2
import HandS.ExcInit
import HandS.Lambda
import HandS.Head0
import HandS.Head1
import HandS.Head2
import HandS.HeadEnd
import HandS.More
import HandS.MakeKwOnly
import HandS.Property
import HandS.ClsMeth
import HandS.HeadHook3
import HandS.Strs
import KE.KRevSl
import HandS.HeadNt
import KE.GoesZip
import KE.GoesMore
import KE.GoesEnum
import HandS.Sort
import HandS.RaiseMore
import HandS.Set
import HandS.SetFor
import PyProof.Rows.SortShellAny
import PyProof.Rows.StrMeet
import PyProof.P3Eq
import HandS.OwnEq
import HandS.ExcField
import KE.KExcIs
import HandS.ExcIs
import KE.KCallOwn
import HandS.Conv
import HandS.DictComp
import KE.KOpsOwn
import HandS.TryOnly
import HandS.ListItems
import HandS.DeepEq
import KE.KSortKeySt
import HandS.SortKw
import HandS.FStr
import HandS.Text
import HandS.TryElse
import PyProof.StrBlock2
import KE.KStateDown
import Lean
import PySem.Challenge.RW_foundtwice_k12_names_words_and_signs
set_option Elab.async false
set_option linter.all false
set_option maxRecDepth 100000
set_option maxHeartbeats 0
namespace DL
open PySem L2
inductive Dv where
  | non | bl (b : Bool) | int (i : Int) | str (x : Str) | tup (l : List Dv) | lst (l : List Dv) | rol (l : List Dv) | dic (l : List (Key × Dv)) | obj (c : Str) (fs : List (Str × Dv)) | hdl (k : Nat) | glo (x : Str) | ty (n : String) | ext (t : Nat) (c : Str) (ns : List Str) (l : List Dv)
inductive Ob where
  | lst (l : List Dv) | dct (l : List (Key × Dv)) | ins (c : Str) (fs : List (Str × Dv)) | ext (t : Nat) (c : Str) (l : List Dv)
abbrev Sto := List Ob
inductive Sl where
  | no | va (d : Dv) | own (o : Ob)
abbrev Sl.ow (l : List Dv) : Sl := .own (.lst l)
abbrev Sl.od (l : List (Key × Dv)) : Sl := .own (.dct l)
abbrev Sl.oi (c : Str) (fs : List (Str × Dv)) : Sl := .own (.ins c fs)
abbrev Env := List Sl
/-- a tuple of the top -/
def TK (K : PySem.W.Frag) (a : Addr) (xs : List V) : Prop := (∀ H', SqT K H' a xs) ∧ ∃ o, K.lookup a = some o ∧ o.cls = .type "tuple" ∧ o.dict = none
/-- other things: an exception held as a value (1; 2: without fields), a code object (3) -/
inductive KindE (K : PySem.W.Frag) : Nat → Str → List Str → Addr → List V → List (Addr × HO) → Prop
  | exc {a dx : Addr} {c : Str} {ns : List Str} {vs : List V} : vs.length = ns.length → KindE K 1 c ns a vs [(a, exo a (He.ga K c) (some dx)), (dx, exd dx (ns.zip vs).reverse)]
  | exc0 {a : Addr} {c : Str} : KindE K 2 c [] a [] [(a, exo a (He.ga K c) none)]
  | cod {a : Addr} {c : Str} : KindE K 3 c [] a [] [(a, LamX.CodeO a c)]
theorem KindE.nodk {K : PySem.W.Frag} {t : Nat} {c : Str} {ns : List Str} {a : Addr} {vs : List V} {os : List (Addr × HO)} (h : KindE K t c ns a vs os) : ∀ p ∈ os, ∀ kvs, p.2 ≠ .dK kvs := by
  intro p hp kvs
  cases h with
  | exc _ =>
    rcases List.mem_cons.mp hp with rfl | hp
    · unfold exo; exact fun z => nomatch z
    · cases List.mem_singleton.mp hp; unfold exd; exact fun z => nomatch z
  | exc0 => cases List.mem_singleton.mp hp; unfold exo; exact fun z => nomatch z
  | cod => cases List.mem_singleton.mp hp; unfold LamX.CodeO; exact fun z => nomatch z
/-- other things of the store: a table of code objects of the def c (1) -/
inductive KindO (K : PySem.W.Frag) : Nat → Str → Addr → List V → HO → Prop
  | tab {a : Addr} {c : Str} {vs : List V} {ps : Array Value} : TriplesOk ps.toList → (∀ (pos : Pos) (cv : Value), codeAmong pos ps.toList = some cv → ∃ c, cv = .ref c ∧ V.ref c ∈ vs) → KindO K 1 c a vs (.tbl ps)
section
variable (K : PySem.W.Frag) (L : Addr → Prop) (io : List Addr) (H : Hp)
mutual
inductive VR : V → Dv → Prop
  | non : VR .non .non
  | bl (b : Bool) : VR (.bl b) (.bl b)
  | int (i : Int) : VR (.int i) (.int i)
  | str (x : Str) : VR (.str x) (.str x)
  | tup {a : Addr} {xs : List V} {ds : List Dv} : ¬ L a → H a = some (.tup xs) → VRs xs ds → VR (.ref a) (.tup ds)
  | tupK {a : Addr} {xs : List V} {ds : List Dv} : TK K a xs → VRs xs ds → VR (.ref a) (.tup ds)
  | lst {a : Addr} {xs : List V} {ds : List Dv} : ¬ L a → H a = some (.lst xs) → VRs xs ds → VR (.ref a) (.lst ds)
  | rol {a : Addr} {xs : List V} {ds : List Dv} : ¬ L a → Rd H a (.lst xs) → VRs xs ds → VR (.ref a) (.rol ds)
  | rolK {a : Addr} {xs : List V} {ds : List Dv} : (∀ H', SqL K H' a xs) → VRs xs ds → VR (.ref a) (.rol ds)
  | dic {a : Addr} {kvs : List (Key × V)} {l : List (Key × Dv)} : ¬ L a → Rd H a (.dK kvs) → VRp kvs l → VR (.ref a) (.dic l)
  | obj {a dx : Addr} {c : Str} {vs : List (Str × V)} {fs : List (Str × Dv)} : ¬ L a → H a = some (.ins (He.ga K c) dx vs) → VRf vs fs → VR (.ref a) (.obj c fs)
  | hdl {a : Addr} {k : Nat} : io[k]? = some a → VR (.ref a) (.hdl k)
  | glo (x : Str) : VR (.ref (He.ga K x)) (.glo x)
  | ty (n : String) : VR (.ty n) (.ty n)
  | ext {a : Addr} {t : Nat} {c : Str} {ns : List Str} {vs : List V} {ds : List Dv} {os : List (Addr × HO)} : t ≠ 0 → KindE K t c ns a vs os → (∀ p ∈ os, ¬ L p.1 ∧ H p.1 = some p.2) → VRs vs ds → VR (.ref a) (.ext t c ns ds)
inductive VRs : List V → List Dv → Prop
  | nil : VRs [] []
  | cons {v : V} {vs : List V} {d : Dv} {ds : List Dv} : VR v d → VRs vs ds → VRs (v :: vs) (d :: ds)
inductive VRp : List (Key × V) → List (Key × Dv) → Prop
  | nil : VRp [] []
  | cons {k : Key} {v : V} {vs : List (Key × V)} {d : Dv} {ds : List (Key × Dv)} : VR v d → VRp vs ds → VRp ((k, v) :: vs) ((k, d) :: ds)
inductive VRf : List (Str × V) → List (Str × Dv) → Prop
  | nil : VRf [] []
  | cons {k : Str} {v : V} {vs : List (Str × V)} {d : Dv} {ds : List (Str × Dv)} : VR v d → VRf vs ds → VRf ((k, v) :: vs) ((k, d) :: ds)
end
end
/-- from one state to a later one: handles are added, what is new is fresh, what is no handle's stands -/
structure Stp (L : Addr → Prop) (io : List Addr) (H : Hp) (L' : Addr → Prop) (io' : List Addr) (H' : Hp) : Prop where
  pre : ∃ more, io' = io ++ more
  hn : ∀ x ∈ io', x ∈ io ∨ H x = none
  new : ∀ a, L' a → L a ∨ H a = none
  keep : ∀ a o, H a = some o → a ∉ io → H' a = some o
  up : ∀ a, L a → L' a
theorem Stp.refl (L : Addr → Prop) (io : List Addr) (H : Hp) : Stp L io H L io H := ⟨⟨[], by simp⟩, fun _ h => .inl h, fun _ h => .inl h, fun _ _ h _ => h, fun _ h => h⟩
theorem Stp.back {L L1 : Addr → Prop} {io io1 : List Addr} {H H1 : Hp} (a : Stp L io H L1 io1 H1) {x : Addr} (h : H1 x = none) : x ∈ io ∨ H x = none := by
  cases e : H x with
  | none => exact .inr rfl
  | some o =>
    by_cases hx : x ∈ io
    · exact .inl hx
    · rw [a.keep x o e hx] at h
      cases h
theorem Stp.trans {L L1 L2 : Addr → Prop} {io io1 io2 : List Addr} {H H1 H2 : Hp} (a : Stp L io H L1 io1 H1) (b : Stp L1 io1 H1 L2 io2 H2) (sub : ∀ x ∈ io, L x) : Stp L io H L2 io2 H2 where
  pre := by
    obtain ⟨m, rfl⟩ := a.pre
    obtain ⟨m1, rfl⟩ := b.pre
    exact ⟨m ++ m1, by simp⟩
  hn := fun x h => by
    rcases b.hn x h with h1 | h1
    · exact a.hn x h1
    · exact a.back h1
  new := fun x h => by
    rcases b.new x h with h1 | h1
    · exact a.new x h1
    · rcases a.back h1 with z | z
      · exact .inl (sub x z)
      · exact .inr z
  keep := fun x o h hn => by
    refine b.keep x o (a.keep x o h hn) fun hx => ?_
    rcases a.hn x hx with z | z
    · exact hn z
    · rw [z] at h; cases h
  up := fun x h => b.up x (a.up x h)
theorem rd_keep {H H' : Hp} {a : Addr} {u : HO} (r : Rd H a u) (k : ∀ o, H a = some o → H' a = some o) : Rd H' a u := by
  rcases r with r | ⟨o, r⟩
  · exact .inl (k _ r)
  · exact .inr ⟨o, k _ r⟩
theorem rd_some {H : Hp} {a : Addr} {u : HO} (r : Rd H a u) : ∃ o, H a = some o := by
  rcases r with r | ⟨o, r⟩
  · exact ⟨_, r⟩
  · exact ⟨_, r⟩
theorem io_keep {io more : List Addr} {k : Nat} {a : Addr} (h : io[k]? = some a) : (io ++ more)[k]? = some a := by
  have := (List.getElem?_eq_some_iff.mp h).1
  rw [List.getElem?_append_left this]
  exact h
section
variable {K : PySem.W.Frag} {L L' : Addr → Prop} {io io' : List Addr} {H H' : Hp}
/-- the general way on: handles stay, what is not volatile stands and stays not volatile -/
theorem VR.on (hp : ∀ (k : Nat) (a : Addr), io[k]? = some a → io'[k]? = some a) (hl : ∀ a o, H a = some o → ¬ L a → H' a = some o ∧ ¬ L' a) :
    ∀ {v : V} {d : Dv}, VR K L io H v d → VR K L' io' H' v d := by
  intro v d h
  refine VR.rec (motive_1 := fun v d _ => VR K L' io' H' v d) (motive_2 := fun vs ds _ => VRs K L' io' H' vs ds) (motive_3 := fun vs ds _ => VRp K L' io' H' vs ds) (motive_4 := fun vs ds _ => VRf K L' io' H' vs ds) ?_ ?_ ?_ ?_ ?_ ?_ ?_ ?_ ?_ ?_ ?_ ?_ ?_ ?_ ?_ ?_ ?_ ?_ ?_ ?_ ?_ h
  · exact .non
  · exact fun b => .bl b
  · exact fun i => .int i
  · exact fun x => .str x
  · intro a xs ds nl e _ ih
    exact .tup (hl a _ e nl).2 (hl a _ e nl).1 ih
  · exact fun h _ ih => .tupK h ih
  · intro a xs ds nl e _ ih
    exact .lst (hl a _ e nl).2 (hl a _ e nl).1 ih
  · intro a xs ds nl r _ ih
    obtain ⟨o, e⟩ := rd_some r
    exact .rol (hl a o e nl).2 (rd_keep r fun o e => (hl a o e nl).1) ih
  · exact fun h _ ih => .rolK h ih
  · intro a xs ds nl r _ ih
    obtain ⟨o, e⟩ := rd_some r
    exact .dic (hl a o e nl).2 (rd_keep r fun o e => (hl a o e nl).1) ih
  · intro a dx c vs fs nl e _ ih
    exact .obj (hl a _ e nl).2 (hl a _ e nl).1 ih
  · exact fun h => .hdl (hp _ _ h)
  · exact fun x => .glo x
  · exact fun n => .ty n
  · intro a t c ns vs ds os h0 hk ho _ ih
    exact .ext h0 hk (fun p hp => ⟨(hl _ _ (ho p hp).2 (ho p hp).1).2, (hl _ _ (ho p hp).2 (ho p hp).1).1⟩) ih
  · exact .nil
  · exact fun _ _ h1 h2 => .cons h1 h2
  · exact .nil
  · exact fun _ _ h1 h2 => .cons h1 h2
  · exact .nil
  · exact fun _ _ h1 h2 => .cons h1 h2
theorem VRs.on (hp : ∀ (k : Nat) (a : Addr), io[k]? = some a → io'[k]? = some a) (hl : ∀ a o, H a = some o → ¬ L a → H' a = some o ∧ ¬ L' a) :
    ∀ {vs : List V} {ds : List Dv}, VRs K L io H vs ds → VRs K L' io' H' vs ds
  | _, _, .nil => .nil
  | _, _, .cons h t => .cons (VR.on hp hl h) (VRs.on hp hl t)
theorem Stp.on (s : Stp L io H L' io' H') (sub : ∀ x ∈ io, L x) : (∀ (k : Nat) (a : Addr), io[k]? = some a → io'[k]? = some a) ∧ (∀ a o, H a = some o → ¬ L a → H' a = some o ∧ ¬ L' a) := by
  refine ⟨fun k a h => ?_, fun a o h nl => ⟨s.keep a o h fun z => nl (sub a z), fun z => ?_⟩⟩
  · obtain ⟨m, rfl⟩ := s.pre
    exact io_keep h
  · rcases s.new a z with q | q
    · exact nl q
    · rw [q] at h; cases h
theorem VR.step {v : V} {d : Dv} (h : VR K L io H v d) (s : Stp L io H L' io' H') (sub : ∀ x ∈ io, L x) : VR K L' io' H' v d := VR.on (s.on sub).1 (s.on sub).2 h
theorem VRs.step {v : List V} {d : List Dv} (h : VRs K L io H v d) (s : Stp L io H L' io' H') (sub : ∀ x ∈ io, L x) : VRs K L' io' H' v d := VRs.on (s.on sub).1 (s.on sub).2 h
theorem VR.less {v : V} {d : Dv} (h : VR K L io H v d) (hl : ∀ a, L' a → L a) : VR K L' io H v d := VR.on (fun _ _ h => h) (fun a o e n => ⟨e, fun z => n (hl a z)⟩) h
theorem VRs.less {v : List V} {d : List Dv} (h : VRs K L io H v d) (hl : ∀ a, L' a → L a) : VRs K L' io H v d := VRs.on (fun _ _ h => h) (fun a o e n => ⟨e, fun z => n (hl a z)⟩) h
/-- a volatile thing is changed -/
theorem VR.mut {v : V} {d : Dv} {p : Addr} {o : HO} (h : VR K L io H v d) (hp : L p) : VR K L io (upd H p o) v d :=
  VR.on (fun _ _ h => h) (fun a u e n => ⟨by rw [upd_ne (fun z => n (by rw [z]; exact hp))]; exact e, n⟩) h
theorem VRs.mut {v : List V} {d : List Dv} {p : Addr} {o : HO} (h : VRs K L io H v d) (hp : L p) : VRs K L io (upd H p o) v d :=
  VRs.on (fun _ _ h => h) (fun a u e n => ⟨by rw [upd_ne (fun z => n (by rw [z]; exact hp))]; exact e, n⟩) h
theorem VRs.mono (m : ∀ v d, VR K L io H v d → VR K L' io' H' v d) : ∀ {vs : List V} {ds : List Dv}, VRs K L io H vs ds → VRs K L' io' H' vs ds
  | _, _, .nil => .nil
  | _, _, .cons h t => .cons (m _ _ h) (VRs.mono m t)
theorem VRs.len : ∀ {vs : List V} {ds : List Dv}, VRs K L io H vs ds → vs.length = ds.length
  | _, _, .nil => rfl
  | _, _, .cons _ t => by rw [List.length_cons, List.length_cons, VRs.len t]
theorem VRs.get : ∀ {vs : List V} {ds : List Dv} {i : Nat} {d : Dv}, VRs K L io H vs ds → ds[i]? = some d → ∃ v, vs[i]? = some v ∧ VR K L io H v d
  | _, _, _, _, .nil, e => by simp at e
  | _, _, 0, _, .cons h _, e => by simp at e; subst e; exact ⟨_, rfl, h⟩
  | _, _, i + 1, _, .cons _ t, e => by
    obtain ⟨v, h1, h2⟩ := VRs.get (i := i) t (by simpa using e)
    exact ⟨v, by simpa using h1, h2⟩
theorem VRs.app : ∀ {vs ws : List V} {ds es : List Dv}, VRs K L io H vs ds → VRs K L io H ws es → VRs K L io H (vs ++ ws) (ds ++ es)
  | _, _, _, _, .nil, h => h
  | _, _, _, _, .cons h t, h2 => .cons h (VRs.app t h2)
theorem VRs.set {v : V} {d : Dv} (h : VR K L io H v d) : ∀ {vs : List V} {ds : List Dv} (i : Nat), VRs K L io H vs ds → VRs K L io H (vs.set i v) (ds.set i d)
  | _, _, _, .nil => .nil
  | _, _, 0, .cons _ t => .cons h t
  | _, _, i + 1, .cons q t => .cons q (VRs.set h i t)
theorem VRs.take : ∀ {vs : List V} {ds : List Dv} (n : Nat), VRs K L io H vs ds → VRs K L io H (vs.take n) (ds.take n)
  | _, _, 0, _ => .nil
  | _, _, _ + 1, .nil => .nil
  | _, _, n + 1, .cons h t => .cons h (VRs.take n t)
theorem VRs.drop : ∀ {vs : List V} {ds : List Dv} (n : Nat), VRs K L io H vs ds → VRs K L io H (vs.drop n) (ds.drop n)
  | _, _, 0, h => h
  | _, _, _ + 1, .nil => .nil
  | _, _, n + 1, .cons _ t => VRs.drop n t
end
def PairR {α : Type} (R : V → Dv → Prop) : List (α × V) → List (α × Dv) → Prop := Paired fun p q => p.1 = q.1 ∧ R p.2 q.2
def ObR (K : PySem.W.Frag) (L : Addr → Prop) (io : List Addr) (H : Hp) (a : Addr) : Ob → Prop
  | .lst l => ∃ xs, H a = some (.lst xs) ∧ VRs K L io H xs l
  | .dct l => ∃ kvs, H a = some (.dK kvs) ∧ PairR (VR K L io H) kvs l
  | .ins c fs => ∃ dx vs, H a = some (.ins (He.ga K c) dx vs) ∧ PairR (VR K L io H) vs fs
  | .ext t c l => a ∈ io ∧ ∃ u vs, H a = some u ∧ KindO K t c a vs u ∧ VRs K L io H vs l
theorem PairR.mono {α : Type} {R R' : V → Dv → Prop} (h : ∀ v d, R v d → R' v d) : ∀ {l : List (α × V)} {m : List (α × Dv)}, PairR R l m → PairR R' l m
  | _, _, .nil => .nil
  | _, _, .cons r t => .cons ⟨r.1, h _ _ r.2⟩ (PairR.mono h t)
structure SR (K : PySem.W.Frag) (L : Addr → Prop) (io : List Addr) (H : Hp) (S : Sto) : Prop where
  len : io.length = S.length
  nd : io.Nodup
  sub : ∀ a ∈ io, L a
  dom : ∀ a, L a → H a ≠ none
  obj : ∀ (k : Nat) (a : Addr) (o : Ob), io[k]? = some a → S[k]? = some o → ObR K L io H a o
/-- the state of a frame: entered at L0, io0, H0 -/
structure FR (K : PySem.W.Frag) (L0 : Addr → Prop) (io0 : List Addr) (H0 : Hp) (L : Addr → Prop) (io : List Addr) (H : Hp) (g : St) (e : Env) (S : Sto) : Prop where
  st : SR K L io H S
  len : g.length = e.length
  va : ∀ (i : Nat) (d : Dv), e[i]? = some (.va d) → ∃ v, g[i]? = some (some v) ∧ VR K L io H v d
  own : ∀ (i : Nat) (o : Ob), e[i]? = some (.own o) → ∃ p, g[i]? = some (some (.ref p)) ∧ L p ∧ p ∉ io ∧ H0 p = none ∧ ObR K L io H p o
  inj : ∀ (i j : Nat) (p : Addr), i ≠ j → (∀ d, e[i]? ≠ some (.va d)) → (∀ d, e[j]? ≠ some (.va d)) → e[i]? ≠ some .no → e[j]? ≠ some .no → g[i]? = some (some (.ref p)) → g[j]? ≠ some (some (.ref p))
  en : Stp L0 io0 H0 L io H
  sub0 : ∀ a ∈ io0, L0 a
  dom0 : ∀ a, L0 a → H0 a ≠ none
section
variable {K : PySem.W.Frag} {L0 L L' : Addr → Prop} {io0 io io' : List Addr} {H0 H H' : Hp} {g : St} {e : Env} {S S' : Sto}
theorem FR.ow (f : FR K L0 io0 H0 L io H g e S) (i : Nat) (l : List Dv) (h : e[i]? = some (.ow l)) : ∃ p xs, g[i]? = some (some (.ref p)) ∧ L p ∧ p ∉ io ∧ H0 p = none ∧ H p = some (.lst xs) ∧ VRs K L io H xs l := by
  obtain ⟨p, h1, h2, h3, h4, xs, h5, h6⟩ := f.own i _ h
  exact ⟨p, xs, h1, h2, h3, h4, h5, h6⟩
theorem FR.od (f : FR K L0 io0 H0 L io H g e S) (i : Nat) (l : List (Key × Dv)) (h : e[i]? = some (.od l)) : ∃ p kvs, g[i]? = some (some (.ref p)) ∧ L p ∧ p ∉ io ∧ H0 p = none ∧ H p = some (.dK kvs) ∧ PairR (VR K L io H) kvs l := by
  obtain ⟨p, h1, h2, h3, h4, xs, h5, h6⟩ := f.own i _ h
  exact ⟨p, xs, h1, h2, h3, h4, h5, h6⟩
theorem FR.oi (f : FR K L0 io0 H0 L io H g e S) (i : Nat) (c : Str) (fs : List (Str × Dv)) (h : e[i]? = some (.oi c fs)) : ∃ p dx vs, g[i]? = some (some (.ref p)) ∧ L p ∧ p ∉ io ∧ H0 p = none ∧ H p = some (.ins (He.ga K c) dx vs) ∧ PairR (VR K L io H) vs fs := by
  obtain ⟨p, h1, h2, h3, h4, dx, vs, h5, h6⟩ := f.own i _ h
  exact ⟨p, dx, vs, h1, h2, h3, h4, h5, h6⟩
theorem ObR.has {a : Addr} {o : Ob} (h : ObR K L io H a o) : ∃ u, H a = some u := by
  cases o with
  | lst l => exact ⟨_, h.choose_spec.1⟩
  | dct l => exact ⟨_, h.choose_spec.1⟩
  | ins c fs => exact ⟨_, h.choose_spec.choose_spec.1⟩
  | ext t c l => obtain ⟨_, u, vs, e, _⟩ := h; exact ⟨_, e⟩
theorem ObR.mono {a : Addr} {o : Ob} (h : ObR K L io H a o) (k : ∀ u, H a = some u → H' a = some u) (m : ∀ v d, VR K L io H v d → VR K L' io' H' v d) : ObR K L' io' H' a o := by
  cases o with
  | lst l =>
    obtain ⟨xs, e, r⟩ := h
    exact ⟨xs, k _ e, r.mono m⟩
  | dct l =>
    obtain ⟨xs, e, r⟩ := h
    exact ⟨xs, k _ e, r.mono m⟩
  | ins c fs =>
    obtain ⟨dx, xs, e, r⟩ := h
    exact ⟨dx, xs, k _ e, r.mono m⟩
  | ext t c l =>
    obtain ⟨hi, u, vs, e, r0, r⟩ := h
    obtain ⟨j, hj, he⟩ := List.getElem_of_mem hi
    have q := m (.ref a) (.hdl j) (.hdl (by rw [List.getElem?_eq_getElem hj, he]))
    cases q with
    | hdl q => exact ⟨List.mem_of_getElem? q, u, vs, k _ e, r0, r.mono m⟩
/-- an expression was worked out: the frame stands -/
theorem FR.step (f : FR K L0 io0 H0 L io H g e S) (s : Stp L io H L' io' H') (st : SR K L' io' H' S') : FR K L0 io0 H0 L' io' H' g e S' where
  st := st
  len := f.len
  va := fun i d h => by
    obtain ⟨v, h1, h2⟩ := f.va i d h
    exact ⟨v, h1, h2.step s f.st.sub⟩
  own := fun i o h => by
    obtain ⟨p, h1, h2, h3, h4, h5⟩ := f.own i o h
    obtain ⟨u, h6⟩ := ObR.has (o := o) h5
    refine ⟨p, h1, s.up p h2, fun z => ?_, h4, ObR.mono (o := o) h5 (fun u h => s.keep p u h h3) fun v d r => r.step s f.st.sub⟩
    rcases s.hn p z with q | q
    · exact h3 q
    · rw [q] at h6; cases h6
  inj := f.inj
  en := f.en.trans s f.sub0
  sub0 := f.sub0
  dom0 := f.dom0
end
end DL
namespace DL
open PySem L2
/-- what comes of a piece: a value, an exception of an own class with its fields, or nothing that is known -/
inductive Res (α : Type) where
  | ok (a : α) (S : Sto) | ex (c : Str) (fs : List (Str × Dv)) (S : Sto) | no
abbrev DE := Env → Sto → Res Dv
abbrev DT := Env → Sto → Res Bool
abbrev DA := Env → Sto → Res (List Dv)
def ExR (K : PySem.W.Frag) (L : Addr → Prop) (io : List Addr) (H : Hp) (x : Option Addr) (fs : List (Str × Dv)) : Prop := ∃ a vs, x = some a ∧ ¬ L a ∧ H a = some (.xd vs) ∧ PairR (VR K L io H) vs fs
/-- the end of a piece -/
def Fin {α β : Type} (K : PySem.W.Frag) (W : WX) (R : (Addr → Prop) → List Addr → Hp → β → α → Prop) (g : St) (L : Addr → Prop) (io : List Addr) (H : Hp) (Q : β → Hp → Prop) : Res α → Prop
  | .ok d S' => ∀ (v : β) (H' : Hp) (L' : Addr → Prop) (io' : List Addr), Stp L io H L' io' H' → SR K L' io' H' S' → R L' io' H' v d → Q v H'
  | .ex c fs S' => ∀ (x : Option Addr) (H' : Hp) (L' : Addr → Prop) (io' : List Addr), Stp L io H L' io' H' → SR K L' io' H' S' → ExR K L' io' H' x fs → W (.ref (He.ga K c)) x g H'
  | .no => False
/-- the reading of a piece that works out f -/
def Rdg {α β : Type} (K : PySem.W.Frag) (W : WX) (R : (Addr → Prop) → List Addr → Hp → β → α → Prop) (f : Env → Sto → Res α) : St → Hp → (β → Hp → Prop) → Prop := fun g H Q =>
  ∃ (L0 : Addr → Prop) (io0 : List Addr) (H0 : Hp) (L : Addr → Prop) (io : List Addr) (e : Env) (S : Sto), FR K L0 io0 H0 L io H g e S ∧ Fin K W R g L io H Q (f e S)
def rd (K : PySem.W.Frag) (W : WX) (f : DE) : TE := Rdg K W (VR K) f
def rdt (K : PySem.W.Frag) (W : WX) (f : DT) : TT := Rdg K W (fun _ _ _ (v : Bool) d => v = d) f
def rda (K : PySem.W.Frag) (W : WX) (f : DA) : TA := Rdg K W (VRs K) f
abbrev QE (X : Cx) (W : WX) (e : Expr) (f : DE) : Prop := PE X e (rd X.K W f)
abbrev QT (X : Cx) (W : WX) (e : Expr) (f : DT) : Prop := PT X e (rdt X.K W f)
abbrev QA (X : Cx) (W : WX) (es : List Expr) (f : DA) : Prop := PA X es (rda X.K W f)
theorem pe_imp {X : Cx} {e : Expr} {t t' : TE} (h : PE X e t) (i : ∀ g H Q, t' g H Q → t g H Q) : PE X e t' := ⟨fun pins s g H Q I q => h.run pins s g H Q I (i g H Q q)⟩
theorem pt_imp {X : Cx} {e : Expr} {t t' : TT} (h : PT X e t) (i : ∀ g H Q, t' g H Q → t g H Q) : PT X e t' := ⟨fun pins s g H Q I q => h.run pins s g H Q I (i g H Q q)⟩
theorem pw_imp {X : Cx} {e : Expr} {t t' : TT} (h : PW X e t) (i : ∀ g H Q, t' g H Q → t g H Q) : PW X e t' := ⟨fun w pins s g H Q I q => h.run w pins s g H Q I (i g H Q q)⟩
theorem pa_imp {X : Cx} {e : List Expr} {t t' : TA} (h : PA X e t) (i : ∀ g H Q, t' g H Q → t g H Q) : PA X e t' := ⟨fun p pins s g H Q I q => h.run p pins s g H Q I (i g H Q q)⟩
theorem ps_imp {X : Cx} {e : Stmt} {t t' : TS} (h : PS X e t) (i : ∀ D g H, t' D g H → t D g H) : PS X e t' := ⟨fun pins s g H D I q => h.run pins s g H D I (i D g H q)⟩
theorem pss_imp {X : Cx} {e : List Stmt} {t t' : TS} (h : PSs X e t) (i : ∀ D g H, t' D g H → t D g H) : PSs X e t' := ⟨fun pins s g H D I q => h.run pins s g H D I (i D g H q)⟩
section
variable {K : PySem.W.Frag} {L L' : Addr → Prop} {io io' : List Addr} {H H' : Hp} {S S' : Sto} {p : Addr} {o : HO}
theorem SR.fresh (s : SR K L io H S) (hp : H p = none) : ¬ L p := fun z => s.dom p z hp
theorem Stp.alloc (hp : H p = none) : Stp L io H L io (upd H p o) := ⟨⟨[], by simp⟩, fun _ h => .inl h, fun _ h => .inl h, fun a u e _ => by rw [upd_ne (ne_of_none e hp)]; exact e, fun _ h => h⟩
theorem SR.alloc (s : SR K L io H S) (hp : H p = none) : SR K L io (upd H p o) S where
  len := s.len
  nd := s.nd
  sub := s.sub
  dom := fun a ha => by
    by_cases e : a = p
    · rw [e, upd_same]; exact fun z => nomatch z
    · rw [upd_ne e]; exact s.dom a ha
  obj := fun k a ob h1 h2 => (s.obj k a ob h1 h2).mono (fun u e => by rw [upd_ne (ne_of_none e hp)]; exact e) fun v d r => r.step (Stp.alloc hp) s.sub
theorem VR.newT {xs : List V} {ds : List Dv} (s : SR K L io H S) (hp : H p = none) (r : VRs K L io H xs ds) : VR K L io (upd H p (.tup xs)) (.ref p) (.tup ds) :=
  .tup (s.fresh hp) upd_same (r.step (Stp.alloc hp) s.sub)
theorem VR.newL {xs : List V} {ds : List Dv} (s : SR K L io H S) (hp : H p = none) (r : VRs K L io H xs ds) : VR K L io (upd H p (.lst xs)) (.ref p) (.lst ds) :=
  .lst (s.fresh hp) upd_same (r.step (Stp.alloc hp) s.sub)
end
def asL (S : Sto) : Dv → Option (List Dv)
  | .lst l => some l
  | .rol l => some l
  | .hdl k => match S[k]? with
    | some (.lst l) => some l
    | _ => none
  | _ => none
def asT : Dv → Option (List Dv)
  | .tup l => some l
  | _ => none
section
variable {K : PySem.W.Frag} {L : Addr → Prop} {io : List Addr} {H : Hp} {S : Sto} {v : V} {d : Dv} {l : List Dv}
theorem asL_ok (s : SR K L io H S) (r : VR K L io H v d) (h : asL S d = some l) : ∃ a xs, v = .ref a ∧ SqL K H a xs ∧ VRs K L io H xs l := by
  cases r with
  | lst nl e t => cases h; exact ⟨_, _, rfl, SqL.of e, t⟩
  | rol nl e t => cases h; exact ⟨_, _, rfl, .inl e, t⟩
  | rolK e t => cases h; exact ⟨_, _, rfl, e H, t⟩
  | hdl hk =>
    rename_i a k
    cases q : S[k]? with
    | none => simp [asL, q] at h
    | some o =>
      cases o with
      | lst l' =>
        simp [asL, q] at h
        subst h
        obtain ⟨xs, e, t⟩ := s.obj k a _ hk q
        exact ⟨a, xs, rfl, SqL.of e, t⟩
      | _ => simp [asL, q] at h
  | _ => cases h
theorem asT_ok (r : VR K L io H v d) (h : asT d = some l) : ∃ a xs, v = .ref a ∧ SqT K H a xs ∧ VRs K L io H xs l := by
  cases r with
  | tup nl e t => cases h; exact ⟨_, _, rfl, SqT.of e, t⟩
  | tupK e t => cases h; exact ⟨_, _, rfl, e.1 H, t⟩
  | _ => cases h
end
def vwO : Ob → Dv
  | .lst l => .lst l
  | .dct l => .dic l
  | .ins c fs => .obj c fs
  | .ext _ _ _ => .ext 0 "" [] []
def VX (K : PySem.W.Frag) (L : Addr → Prop) (io : List Addr) (H : Hp) (v : V) (d : Dv) : Prop := VR K L io H v d ∨ ∃ p o, v = .ref p ∧ d = vwO o ∧ p ∉ io ∧ ObR K L io H p o
def isV : Dv → Bool
  | .lst _ => true
  | .dic _ => true
  | .obj _ _ => true
  | .ext 0 _ _ _ => true
  | _ => false
section
variable {K : PySem.W.Frag} {L L' : Addr → Prop} {io io' : List Addr} {H H' : Hp} {S : Sto} {v : V} {d : Dv} {l : List Dv}
theorem VX.vr (r : VX K L io H v d) (h : isV d = false) : VR K L io H v d := by
  rcases r with r | ⟨p, o, rfl, rfl, _, _⟩
  · exact r
  · cases o <;> cases h
theorem VX.step (r : VX K L io H v d) (s : Stp L io H L' io' H') (sub : ∀ x ∈ io, L x) : VX K L' io' H' v d := by
  rcases r with r | ⟨p, o, rfl, rfl, np, ob⟩
  · exact .inl (r.step s sub)
  · obtain ⟨u, hu⟩ := ob.has
    refine .inr ⟨p, o, rfl, rfl, fun z => ?_, ob.mono (fun u e => s.keep p u e np) fun v d r => r.step s sub⟩
    rcases s.hn p z with q | q
    · exact np q
    · rw [q] at hu; cases hu
theorem asL_x (s : SR K L io H S) (r : VX K L io H v d) (h : asL S d = some l) : ∃ a xs, v = .ref a ∧ SqL K H a xs ∧ VRs K L io H xs l := by
  rcases r with r | ⟨p, o, rfl, rfl, np, ob⟩
  · exact asL_ok s r h
  · cases o with
    | lst m => cases h; obtain ⟨xs, e, t⟩ := ob; exact ⟨p, xs, rfl, SqL.of e, t⟩
    | _ => cases h
theorem VX.lst (r : VX K L io H v (.lst l)) : ∃ p xs, v = .ref p ∧ H p = some (.lst xs) ∧ VRs K L io H xs l := by
  rcases r with r | ⟨p, o, rfl, e, np, ob⟩
  · cases r with
    | lst n h t => exact ⟨_, _, rfl, h, t⟩
  · cases o with
    | lst m => cases e; obtain ⟨xs, e, t⟩ := ob; exact ⟨p, xs, rfl, e, t⟩
    | _ => cases e
theorem asT_x (r : VX K L io H v d) (h : asT d = some l) : ∃ a xs, v = .ref a ∧ SqT K H a xs ∧ VRs K L io H xs l := asT_ok (r.vr (by cases d <;> first | rfl | cases h)) h
inductive VXs (K : PySem.W.Frag) (L : Addr → Prop) (io : List Addr) (H : Hp) : List V → List Dv → Prop
  | nil : VXs K L io H [] []
  | cons {v : V} {vs : List V} {d : Dv} {ds : List Dv} : VX K L io H v d → VXs K L io H vs ds → VXs K L io H (v :: vs) (d :: ds)
theorem VRs.x : ∀ {vs : List V} {l : List Dv}, VRs K L io H vs l → VXs K L io H vs l
  | _, _, .nil => .nil
  | _, _, .cons h t => .cons (.inl h) t.x
end
abbrev QX (X : Cx) (W : WX) (e : Expr) (f : DE) : Prop := PE X e (Rdg X.K W (VX X.K) f)
abbrev QXs (X : Cx) (W : WX) (es : List Expr) (f : DA) : Prop := PA X es (Rdg X.K W (VXs X.K) f)
def ofO {α : Type} : Option (α × Sto) → Res α
  | some (a, S) => .ok a S
  | none => .no
def bnd {α β : Type} (x : Res α) (k : α → Sto → Res β) : Res β := match x with
  | .ok a S => k a S
  | .ex c fs S => .ex c fs S
  | .no => .no
@[simp] theorem bnd_ok {α β : Type} (a : α) (S : Sto) (k : α → Sto → Res β) : bnd (.ok a S) k = k a S := rfl
@[simp] theorem ofO_some {α : Type} (a : α) (S : Sto) : ofO (some (a, S)) = .ok a S := rfl
section
variable {X : Cx} {W : WX} {pos : Pos}
def eVar (i : Nat) : DE := fun e S => match e[i]? with
  | some (.va d) => .ok d S
  | _ => .no
def eC (d : Dv) : DE := fun _ S => .ok d S
theorem rd_var {K : PySem.W.Frag} {i : Nat} {g : St} {H : Hp} {Q : VK} (h : rd K W (eVar i) g H Q) : tVar i g H Q := by
  obtain ⟨L0, io0, H0, L, io, e, S, fr, h⟩ := h
  cases q : e[i]? with
  | none => simp only [eVar, q] at h; exact h.elim
  | some sl =>
    cases sl with
    | va d' =>
      simp only [eVar, q] at h
      obtain ⟨v, h1, h2⟩ := fr.va i _ q
      exact ⟨v, h1, h v H L io (Stp.refl ..) fr.st h2⟩
    | _ => simp only [eVar, q] at h; exact h.elim
theorem qe_var (i : Nat) {x : Str} (hN : X.N[i]? = some x := by rfl) (hv : Vis X.env.scope x := by first | exact Or.inl rfl | exact Or.inr (Or.inl rfl) | exact Or.inr (Or.inr rfl)) (hd : (x == ("__debug__" : Str)) = false := by decide)
    (hcd : (x == ("__classdict__" : Str)) = false := by decide) : QE X W (.Name x pos) (eVar i) := pe_imp (pe_var hN hv hd hcd) fun _ _ _ h => rd_var h
theorem rd_C {K : PySem.W.Frag} {d : Dv} {v : V} {g : St} {H : Hp} {Q : VK} (r : ∀ L io, VR K L io H v d) (h : rd K W (eC d) g H Q) : tC v g H Q := by
  obtain ⟨L0, io0, H0, L, io, e, S, fr, h⟩ := h
  exact h v H L io (Stp.refl ..) fr.st (r _ _)
theorem qe_int {i : Int} {j} : QE X W (.Constant (.int i) j pos) (eC (.int i)) := pe_imp pe_int fun _ _ _ h => rd_C (fun _ _ => .int i) h
theorem qe_bl {b : Bool} {j} : QE X W (.Constant (.bool b) j pos) (eC (.bl b)) := pe_imp pe_bl fun _ _ _ h => rd_C (fun _ _ => .bl b) h
theorem qe_non {j} : QE X W (.Constant .none j pos) (eC .non) := pe_imp pe_non fun _ _ _ h => rd_C (fun _ _ => .non) h
theorem qe_str {x : Str} {j} : QE X W (.Constant (.str x) j pos) (eC (.str x)) := pe_imp pe_str fun _ _ _ h => rd_C (fun _ _ => .str x) h
/-- a module's name: a constant, a def, a class -/
theorem qe_glob {x : Str} {v : V} {d : Dv} {u : Value} (hm : X.mg x = some u) (r : RelV v u) (hr : ∀ L io H, VR X.K L io H v d) (hg : Gl X x := by rfl) (hd : (x == ("__debug__" : Str)) = false := by decide) : QE X W (.Name x pos) (eC d) :=
  pe_imp (pe_glob hg hm r hd) fun _ _ _ h => rd_C (fun _ _ => hr _ _ _) h
/-- a built-in class as a value -/
theorem qe_ty {x : Str} {n : String} (hm : X.mg x = none) (hv : bootBuiltins x = some (.type n)) (hg : Gl X x := by rfl) (hn : x ≠ "__name__" := by decide) (hd : (x == ("__debug__" : Str)) = false := by decide) : QE X W (.Name x pos) (eC (.ty n)) :=
  pe_imp (pe_bltn (v := .ty n) hg hm hv rfl hn hd) fun _ _ _ h => rd_C (fun _ _ => .ty n) h
end
section
variable {K : PySem.W.Frag} {W : WX} {α α' β β' γ : Type} {R : (Addr → Prop) → List Addr → Hp → β → α → Prop} {R' : (Addr → Prop) → List Addr → Hp → β' → α' → Prop}
theorem Fin.later {g : St} {L L1 : Addr → Prop} {io io1 : List Addr} {H H1 : Hp} {Q : β' → Hp → Prop} {r : Res α'} (h : Fin K W R' g L io H Q r) (s : Stp L io H L1 io1 H1) (sub : ∀ x ∈ io, L x) : Fin K W R' g L1 io1 H1 Q r := by
  cases r with
  | ok d S' => exact fun v H' L' io' s2 sr r2 => h v H' L' io' (s.trans s2 sub) sr r2
  | ex c fs S' => exact fun v H' L' io' s2 sr r2 => h v H' L' io' (s.trans s2 sub) sr r2
  | no => exact h
/-- the next part of a piece is worked out; the rest goes on -/
theorem Fin.bind {f : Env → Sto → Res α} {k : α → Sto → Res α'} {g : St} {L0 L : Addr → Prop} {io0 io : List Addr} {H0 H : Hp} {e : Env} {S : Sto} {Q : β' → Hp → Prop} {P : β → Hp → Prop}
    (fr : FR K L0 io0 H0 L io H g e S) (h : Fin K W R' g L io H Q (bnd (f e S) k))
    (n : ∀ (L1 : Addr → Prop) (io1 : List Addr) (H1 : Hp) (S1 : Sto) (a : α) (v : β), Stp L io H L1 io1 H1 → FR K L0 io0 H0 L1 io1 H1 g e S1 → R L1 io1 H1 v a → Fin K W R' g L1 io1 H1 Q (k a S1) → P v H1) : Rdg K W R f g H P := by
  refine ⟨L0, io0, H0, L, io, e, S, fr, ?_⟩
  cases hf : f e S with
  | ok a S1 =>
    rw [hf] at h
    intro v H1 L1 io1 s1 sr1 r1
    exact n L1 io1 H1 S1 a v s1 (fr.step s1 sr1) r1 (Fin.later (L := L) (io := io) (H := H) h s1 fr.st.sub)
  | ex c fs S1 =>
    rw [hf] at h
    exact h
  | no =>
    rw [hf] at h
    exact h
/-- the first part of a piece -/
theorem Rdg.bind {f : Env → Sto → Res α} {k : Env → α → Sto → Res α'} {g : St} {H : Hp} {Q : β' → Hp → Prop} {P : β → Hp → Prop}
    (h : Rdg K W R' (fun e S => bnd (f e S) (k e)) g H Q)
    (n : ∀ (L0 : Addr → Prop) (io0 : List Addr) (H0 : Hp) (L : Addr → Prop) (io : List Addr) (H1 : Hp) (e : Env) (S : Sto) (a : α) (v : β), FR K L0 io0 H0 L io H1 g e S → R L io H1 v a → Fin K W R' g L io H1 Q (k e a S) → P v H1) : Rdg K W R f g H P := by
  obtain ⟨L0, io0, H0, L, io, e, S, fr, h⟩ := h
  exact Fin.bind (k := k e) fr h fun L1 io1 H1 S1 a v _ fr1 r1 q => n L0 io0 H0 L1 io1 H1 e S1 a v fr1 r1 q
theorem Fin.ok1 {g : St} {L : Addr → Prop} {io : List Addr} {H : Hp} {Q : β' → Hp → Prop} {d : α'} {S : Sto} (h : Fin K W R' g L io H Q (.ok d S)) (sr : SR K L io H S) {v : β'} (r : R' L io H v d) : Q v H := h v H L io (Stp.refl ..) sr r
theorem Fin.rdg {f : Env → Sto → Res α'} {g : St} {L0 L : Addr → Prop} {io0 io : List Addr} {H0 H : Hp} {Q : β' → Hp → Prop} {e : Env} {S : Sto} (fr : FR K L0 io0 H0 L io H g e S) (h : Fin K W R' g L io H Q (f e S)) : Rdg K W R' f g H Q :=
  ⟨L0, io0, H0, L, io, e, S, fr, h⟩
end
theorem Rdg.weaken {K : PySem.W.Frag} {W : WX} {α β : Type} {R R' : (Addr → Prop) → List Addr → Hp → β → α → Prop} (h : ∀ L io H v d, R' L io H v d → R L io H v d) {f : Env → Sto → Res α} {g : St} {H : Hp} {Q : β → Hp → Prop} (q : Rdg K W R f g H Q) : Rdg K W R' f g H Q := by
  obtain ⟨L0, io0, H0, L, io, e, S, fr, q⟩ := q
  refine ⟨L0, io0, H0, L, io, e, S, fr, ?_⟩
  cases hf : f e S with
  | ok d S' => rw [hf] at q; exact fun v H' L' io' s sr r => q v H' L' io' s sr (h _ _ _ _ _ r)
  | ex c fs S' => rw [hf] at q; exact q
  | no => rw [hf] at q; exact q
/-- r serves what h gives -/
def OpS (K : PySem.W.Frag) (r : R2) (h : Sto → Dv → Dv → Option (Dv × Sto)) : Prop :=
  ∀ (L : Addr → Prop) (io : List Addr) (H : Hp) (S : Sto) (x y : V) (a b d : Dv) (S' : Sto) (Q : VK), SR K L io H S → VX K L io H x a → VX K L io H y b → h S a b = some (d, S') →
    (∀ (v : V) (H' : Hp) (L' : Addr → Prop) (io' : List Addr), Stp L io H L' io' H' → SR K L' io' H' S' → VR K L' io' H' v d → Q v H') → r x y H Q
theorem Fin.opt {α' β' : Type} {K : PySem.W.Frag} {W : WX} {R' : (Addr → Prop) → List Addr → Hp → β' → α' → Prop} {g : St} {L : Addr → Prop} {io : List Addr} {H : Hp} {Q : β' → Hp → Prop} {o : Option (α' × Sto)} (h : Fin K W R' g L io H Q (ofO o)) :
    ∃ d S', o = some (d, S') ∧ ∀ (v : β') (H' : Hp) (L' : Addr → Prop) (io' : List Addr), Stp L io H L' io' H' → SR K L' io' H' S' → R' L' io' H' v d → Q v H' := by
  cases o with
  | none => exact h.elim
  | some p => exact ⟨p.1, p.2, rfl, h⟩
def eBin (h : Sto → Dv → Dv → Option (Dv × Sto)) (f1 f2 : DE) : DE := fun e S => bnd (f1 e S) fun a S1 => bnd (f2 e S1) fun b S2 => ofO (h S2 a b)
theorem rd_bin {K : PySem.W.Frag} {W : WX} {r : R2} {h : Sto → Dv → Dv → Option (Dv × Sto)} {f1 f2 : DE} (ho : OpS K r h) {g : St} {H : Hp} {Q : VK} (q : rd K W (eBin h f1 f2) g H Q) : tOp r (Rdg K W (VX K) f1) (Rdg K W (VX K) f2) g H Q := by
  refine Rdg.bind (R := VX K) (k := fun e a S1 => bnd (f2 e S1) fun b S2 => ofO (h S2 a b)) q fun L0 io0 H0 L io H1 e S a v fr ra q => ?_
  refine Fin.bind (R := VX K) (k := fun b S2 => ofO (h S2 a b)) fr q fun L2 io2 H2 S2 b w s2 fr2 rb q => ?_
  obtain ⟨d, S3, h1, h2⟩ := q.opt
  exact ho L2 io2 H2 S2 v w a b d S3 Q fr2.st (ra.step s2 fr.st.sub) rb h1 h2
section
variable {X : Cx} {W : WX} {pos : Pos} {a b : Expr} {f f1 f2 : DE} {r : R2} {h : Sto → Dv → Dv → Option (Dv × Sto)}
theorem qx (ha : QE X W a f) : QX X W a f := pe_imp ha fun g H Q q => q.weaken fun _ _ _ _ _ r => .inl r
theorem qe_op {op : Operator} (ho : OpR X (binaryOp op) r) (hs : OpS X.K r h) (ha : QX X W a f1) (hb : QX X W b f2) : QE X W (.BinOp a op b pos) (eBin h f1 f2) := pe_imp (pe_op ho ha hb) fun _ _ _ q => rd_bin hs q
theorem qe_cmp {op : CmpOp} (ho : OpR X (compareOp op) r) (hs : OpS X.K r h) (ha : QX X W a f1) (hb : QX X W b f2) (hm : behindInMarks op b = false := by first | exact nomark _ | rfl) : QE X W (.Compare a [op] [b] pos) (eBin h f1 f2) := pe_imp (pe_cmpR ho ha hb hm) fun _ _ _ q => rd_bin hs q
/-- an expression whose value is a truth, as a test -/
def blD : Dv → Sto → Res Bool
  | .bl b, S => .ok b S
  | _, _ => .no
def tVal (f : DE) : DT := fun e S => bnd (f e S) blD
theorem rd_tval {K : PySem.W.Frag} {f : DE} {g : St} {H : Hp} {Q : Bool → Hp → Prop} (q : rdt K W (tVal f) g H Q) : tTest (rd K W f) g H Q := by
  refine Rdg.bind (R := VR K) (k := fun _ => blD) q fun L0 io0 H0 L io H1 e S a v fr ra q => ?_
  cases ra with
  | bl b => exact ⟨_, rfl, q.ok1 fr.st rfl⟩
  | _ => exact q.elim
theorem qt_cmp {op : CmpOp} (ho : OpR X (compareOp op) r) (hs : OpS X.K r h) (ha : QX X W a f1) (hb : QX X W b f2) (hm : behindInMarks op b = false := by first | exact nomark _ | rfl) : QT X W (.Compare a [op] [b] pos) (tVal (eBin h f1 f2)) :=
  pt_imp (pt_cmpR ho ha hb hm) fun g H Q q => by
    have z := rd_tval q
    exact (show tTest (tOp r (Rdg X.K W (VX X.K) f1) (Rdg X.K W (VX X.K) f2)) g H Q from rd_bin hs z)
end
end DL
namespace DL
open PySem L2
def pu2 (h : Dv → Dv → Option Dv) : Sto → Dv → Dv → Option (Dv × Sto) := fun S a b => (h a b).map fun d => (d, S)
theorem pu2_ok {h : Dv → Dv → Option Dv} {S S' : Sto} {a b d : Dv} (e : pu2 h S a b = some (d, S')) : h a b = some d ∧ S' = S := by
  unfold pu2 at e
  cases q : h a b with
  | none => rw [q] at e; cases e
  | some z => rw [q] at e; cases e; exact ⟨rfl, rfl⟩
def iop (g : Int → Int → Option Dv) : Dv → Dv → Option Dv
  | .int i, .int j => g i j
  | _, _ => none
/-- an operator of two ints -/
theorem ops_int {K : PySem.W.Frag} {C : Int → Int → Prop} {gv : Int → Int → V} {g : Int → Int → Option Dv} (hg : ∀ i j d, g i j = some d → C i j ∧ ∀ L io H, VR K L io H (gv i j) d) : OpS K (rI C gv) (pu2 (iop g)) := by
  intro L io H S x y a b d S' Q sr ra rb e0 q
  obtain ⟨e, rfl⟩ := pu2_ok e0
  clear e0
  cases a with
  | int i =>
    cases b with
    | int j =>
      cases ra.vr rfl; cases rb.vr rfl
      obtain ⟨hc, r⟩ := hg i j d e
      exact ⟨i, j, rfl, rfl, hc, q _ H L io (Stp.refl ..) sr (r _ _ _)⟩
    | _ => cases e
  | _ => cases e
theorem ops_int0 {K : PySem.W.Frag} {gv : Int → Int → V} {g : Int → Int → Dv} (hg : ∀ i j L io H, VR K L io H (gv i j) (g i j)) : OpS K (rI0 gv) (pu2 (iop fun i j => some (g i j))) := by
  intro L io H S x y a b d S' Q sr ra rb e0 q
  obtain ⟨e, rfl⟩ := pu2_ok e0
  clear e0
  cases a with
  | int i =>
    cases b with
    | int j =>
      cases ra.vr rfl; cases rb.vr rfl
      cases e
      exact ⟨i, j, rfl, rfl, q _ H L io (Stp.refl ..) sr (hg _ _ _ _ _)⟩
    | _ => cases e
  | _ => cases e
def subD : Dv → Dv → Option Dv := iop fun i j => some (.int (i - j))
def mulD : Dv → Dv → Option Dv := iop fun i j => if (-(2 ^ 64) < i ∧ i < 2 ^ 64) ∨ (-(2 ^ 64) < j ∧ j < 2 ^ 64) then some (.int (i * j)) else none
def modD : Dv → Dv → Option Dv := iop fun i j => if 0 < j then some (.int (i % j)) else none
def fdivD : Dv → Dv → Option Dv := iop fun i j => if 0 < j ∧ j < 1073741824 then some (.int (i / j)) else none
def ltD : Dv → Dv → Option Dv := iop fun i j => some (.bl (decide (i < j)))
def leD : Dv → Dv → Option Dv := iop fun i j => some (.bl (decide (i ≤ j)))
def gtD : Dv → Dv → Option Dv := iop fun i j => some (.bl (decide (j < i)))
def geD : Dv → Dv → Option Dv := iop fun i j => some (.bl (decide (j ≤ i)))
section
variable {X : Cx} {W : WX} {pos : Pos} {a b : Expr} {f1 f2 : DE}
theorem qe_mul (ha : QX X W a f1) (hb : QX X W b f2) : QE X W (.BinOp a .Mult b pos) (eBin (pu2 mulD) f1 f2) := qe_op op_mul (ops_int fun i j d e => by
  split at e
  · rename_i h; cases e; exact ⟨h, fun _ _ _ => .int _⟩
  · cases e) ha hb
theorem qe_mod (ha : QX X W a f1) (hb : QX X W b f2) : QE X W (.BinOp a .Mod b pos) (eBin (pu2 modD) f1 f2) := qe_op op_mod (ops_int fun i j d e => by
  split at e
  · rename_i h; cases e; exact ⟨h, fun _ _ _ => .int _⟩
  · cases e) ha hb
theorem qe_fdiv (ha : QX X W a f1) (hb : QX X W b f2) : QE X W (.BinOp a .FloorDiv b pos) (eBin (pu2 fdivD) f1 f2) := qe_op op_fdiv (ops_int fun i j d e => by
  split at e
  · rename_i h; cases e; exact ⟨h, fun _ _ _ => .int _⟩
  · cases e) ha hb
theorem qt_lt (ha : QX X W a f1) (hb : QX X W b f2) : QT X W (.Compare a [.Lt] [b] pos) (tVal (eBin (pu2 ltD) f1 f2)) := qt_cmp op_lt (ops_int0 fun _ _ _ _ _ => .bl _) ha hb
theorem qt_gt (ha : QX X W a f1) (hb : QX X W b f2) : QT X W (.Compare a [.Gt] [b] pos) (tVal (eBin (pu2 gtD) f1 f2)) := qt_cmp op_gt (ops_int0 fun _ _ _ _ _ => .bl _) ha hb
theorem qt_ge (ha : QX X W a f1) (hb : QX X W b f2) : QT X W (.Compare a [.GtE] [b] pos) (tVal (eBin (pu2 geD) f1 f2)) := qt_cmp op_ge (ops_int0 fun _ _ _ _ _ => .bl _) ha hb
end
def rAddA (K : PySem.W.Frag) : R2 := fun x y H Q => rI0 (fun i j => .int (i + j)) x y H Q ∨ (∃ i j, x = .str i ∧ y = .str j ∧ i.length + j.length ≤ sizeLine ∧ Q (.str (i ++ j)) H) ∨ rCatA K x y H Q ∨ rCat x y H Q
theorem op_addA {X : Cx} : OpR X (binaryOp .Add) (rAddA X.K) := op_add.or (op_add_str.or (op_catA.or op_cat))
def asH (S : Sto) : Dv → Option (List Dv)
  | .lst l => some l
  | .hdl k => match S[k]? with
    | some (.lst l) => some l
    | _ => none
  | _ => none
theorem asH_x {K : PySem.W.Frag} {L : Addr → Prop} {io : List Addr} {H : Hp} {S : Sto} {v : V} {d : Dv} {l : List Dv} (s : SR K L io H S) (r : VX K L io H v d) (h : asH S d = some l) : ∃ a xs, v = .ref a ∧ H a = some (.lst xs) ∧ VRs K L io H xs l := by
  cases d with
  | lst m => cases h; exact r.lst
  | hdl k =>
    cases q : S[k]? with
    | none => simp [asH, q] at h
    | some o =>
      cases o with
      | lst m =>
        simp [asH, q] at h
        subst h
        cases r.vr rfl with
        | hdl hk =>
          obtain ⟨xs, e, t⟩ := s.obj k _ _ hk q
          exact ⟨_, xs, rfl, e, t⟩
      | _ => simp [asH, q] at h
  | _ => cases h
def addD : Sto → Dv → Dv → Option (Dv × Sto)
  | S, .int i, .int j => some (.int (i + j), S)
  | S, .str x, .str y => if x.length + y.length ≤ sizeLine then some (.str (x ++ y), S) else none
  | S, .tup l, .tup m => if l.length + m.length ≤ sizeLine then some (.tup (l ++ m), S) else none
  | S, .lst l, b => (asH S b).bind fun m => if l.length + m.length ≤ sizeLine then some (.lst (l ++ m), S) else none
  | S, .hdl k, b => (asH S (.hdl k)).bind fun l => (asH S b).bind fun m => if l.length + m.length ≤ sizeLine then some (.lst (l ++ m), S) else none
  | _, _, _ => none
theorem VR.tupS {K : PySem.W.Frag} {L : Addr → Prop} {io : List Addr} {H : Hp} {v : V} {l : List Dv} (r : VR K L io H v (.tup l)) : ∃ a xs, v = .ref a ∧ SqT K H a xs ∧ VRs K L io H xs l := asT_ok r rfl
theorem VRs.nil_iff {K : PySem.W.Frag} {L : Addr → Prop} {io : List Addr} {H : Hp} {vs : List V} {l : List Dv} (r : VRs K L io H vs l) : vs = [] ↔ l = [] := by
  cases r <;> simp
theorem ops_add {K : PySem.W.Frag} : OpS K (rAddA K) addD := by
  intro L io H S x y a b d S' Q sr ra rb e q
  have lst : ∀ l, asH S a = some l → ((asH S b).bind fun m => if l.length + m.length ≤ sizeLine then some (Dv.lst (l ++ m), S) else none) = some (d, S') → rAddA K x y H Q := by
    intro l h1 e
    cases h : asH S b with
    | none => rw [h] at e; cases e
    | some m =>
      rw [h] at e
      simp only [Option.bind_some] at e
      split at e
      · rename_i hl
        cases e
        obtain ⟨p1, xs, rfl, e1, r1⟩ := asH_x sr ra h1
        obtain ⟨p2, ys, rfl, e2, r2⟩ := asH_x sr rb h
        exact .inr (.inr (.inr ⟨_, _, _, _, rfl, rfl, e1, e2, by rw [r1.len, r2.len]; exact hl, fun p hp => q _ _ L io (Stp.alloc hp) (sr.alloc hp) (VR.newL sr hp (r1.app r2))⟩))
      · cases e
  cases a with
  | int i =>
    cases b with
    | int j =>
      cases e; cases ra.vr rfl; cases rb.vr rfl
      exact .inl ⟨i, j, rfl, rfl, q _ H L io (Stp.refl ..) sr (.int _)⟩
    | _ => cases e
  | str i =>
    cases b with
    | str j =>
      simp only [addD] at e
      split at e
      · rename_i h
        cases e; cases ra.vr rfl; cases rb.vr rfl
        exact .inr (.inl ⟨i, j, rfl, rfl, h, q _ H L io (Stp.refl ..) sr (.str _)⟩)
      · cases e
    | _ => cases e
  | tup l =>
    cases b with
    | tup m =>
      simp only [addD] at e
      split at e
      · rename_i h
        cases e
        obtain ⟨p1, xs, rfl, s1, r1⟩ := (ra.vr rfl).tupS
        obtain ⟨p2, ys, rfl, s2, r2⟩ := (rb.vr rfl).tupS
        refine .inr (.inr (.inl ⟨p1, p2, xs, ys, rfl, rfl, s1, s2, by rw [r1.len, r2.len]; exact h, fun h0 => ?_, fun h0 h1 => ?_, fun _ _ p hp => ?_⟩))
        · have : l = [] := r1.nil_iff.mp h0
          subst this
          exact q _ H L io (Stp.refl ..) sr (rb.vr rfl)
        · have : m = [] := r2.nil_iff.mp h1
          subst this
          rw [List.append_nil] at q
          exact q _ H L io (Stp.refl ..) sr (ra.vr rfl)
        · exact q _ _ L io (Stp.alloc hp) (sr.alloc hp) (VR.newT sr hp (r1.app r2))
      · cases e
    | _ => cases e
  | lst l =>
    have e' : ((asH S b).bind fun m => if l.length + m.length ≤ sizeLine then some (Dv.lst (l ++ m), S) else none) = some (d, S') := by cases b <;> exact e
    exact lst l rfl e'
  | hdl k =>
    have e' : ((asH S (.hdl k)).bind fun l => (asH S b).bind fun m => if l.length + m.length ≤ sizeLine then some (Dv.lst (l ++ m), S) else none) = some (d, S') := by cases b <;> exact e
    cases h : asH S (.hdl k) with
    | none => rw [h] at e'; cases e'
    | some l => rw [h] at e'; exact lst l h e'
  | _ => cases e
theorem qe_add {X : Cx} {W : WX} {pos : Pos} {a b : Expr} {f1 f2 : DE} (ha : QX X W a f1) (hb : QX X W b f2) : QE X W (.BinOp a .Add b pos) (eBin addD f1 f2) := qe_op op_addA ops_add ha hb
mutual
def toP : Dv → Option PyData
  | .non => some .none
  | .bl b => some (.bool b)
  | .int i => some (.int i)
  | .str x => some (.str x)
  | .tup l => (toPs l).map .tuple
  | .lst l => (toPs l).map .list
  | .rol l => (toPs l).map .list
  | .dic _ => none
  | .obj _ _ => none
  | .hdl _ => none
  | .glo _ => none
  | .ty _ => none
  | .ext _ _ _ _ => none
def toPs : List Dv → Option (List PyData)
  | [] => some []
  | d :: l => (toP d).bind fun p => (toPs l).map fun ps => p :: ps
end
/-- handles as they stand now -/
def deref : Nat → Sto → Dv → Dv
  | 0, _, d => d
  | n + 1, S, .hdl k => match S[k]? with
    | some (.lst l) => .lst (l.map (deref n S))
    | some (.dct l) => .dic (l.map fun q => (q.1, deref n S q.2))
    | _ => .hdl k
  | n + 1, S, .tup l => .tup (l.map (deref n S))
  | n + 1, S, .lst l => .lst (l.map (deref n S))
  | n + 1, S, .rol l => .rol (l.map (deref n S))
  | n + 1, S, .dic l => .dic (l.map fun q => (q.1, deref n S q.2))
  | _ + 1, _, d => d
section
variable {K : PySem.W.Frag} {L : Addr → Prop} {io : List Addr} {H : Hp} {S : Sto}
mutual
theorem toP_ok : ∀ (d : Dv) (v : V) (p : PyData), VR K L io H v d → toP d = some p → Dp K H v p
  | .non, v, p, r, e => by cases r; cases e; exact .non
  | .bl b, v, p, r, e => by cases r; cases e; exact .bl b
  | .int b, v, p, r, e => by cases r; cases e; exact .int b
  | .str b, v, p, r, e => by cases r; cases e; exact .str b
  | .tup l, v, p, r, e => by
    obtain ⟨a, xs, rfl, s, t⟩ := r.tupS
    simp only [toP] at e
    cases q : toPs l with
    | none => rw [q] at e; cases e
    | some ps => rw [q] at e; cases e; exact .tup s (toPs_ok l xs ps t q)
  | .lst l, v, p, r, e => by
    simp only [toP] at e
    cases q : toPs l with
    | none => rw [q] at e; cases e
    | some ps =>
      rw [q] at e; cases e
      cases r with
      | lst n h t => exact .lst (SqL.of h) (toPs_ok l _ ps t q)
  | .rol l, v, p, r, e => by
    simp only [toP] at e
    cases q : toPs l with
    | none => rw [q] at e; cases e
    | some ps =>
      rw [q] at e; cases e
      cases r with
      | rol n h t => exact .lst (.inl h) (toPs_ok l _ ps t q)
      | rolK h t => exact .lst (h H) (toPs_ok l _ ps t q)
  | .dic k, v, p, r, e => by simp [toP] at e
  | .obj c k, v, p, r, e => by simp [toP] at e
  | .hdl k, v, p, r, e => by simp [toP] at e
  | .glo k, v, p, r, e => by simp [toP] at e
  | .ty k, v, p, r, e => by simp [toP] at e
  | .ext _ _ _ _, v, p, r, e => by simp [toP] at e
theorem toPs_ok : ∀ (l : List Dv) (vs : List V) (ps : List PyData), VRs K L io H vs l → toPs l = some ps → DpAll K H vs ps
  | [], vs, ps, r, e => by cases r; simp [toPs] at e; subst e; exact .nil
  | d :: l, vs, ps, r, e => by
    cases r with
    | cons h t =>
      simp only [toPs] at e
      cases q : toP d with
      | none => rw [q] at e; cases e
      | some p =>
        rw [q] at e
        cases q2 : toPs l with
        | none => rw [q2] at e; cases e
        | some ps' =>
          rw [q2] at e
          cases e
          exact .cons (toP_ok d _ p h q) (toPs_ok l _ ps' t q2)
end
theorem deref_all (n : Nat) (ih : ∀ (d : Dv) (v : V) (p : PyData), VR K L io H v d → toP (deref n S d) = some p → Dp K H v p) : ∀ (l : List Dv) (vs : List V) (ps : List PyData), VRs K L io H vs l → toPs (l.map (deref n S)) = some ps → DpAll K H vs ps
  | [], vs, ps, r, e => by cases r; simp [toPs] at e; subst e; exact .nil
  | d :: l, vs, ps, r, e => by
    cases r with
    | cons h t =>
      simp only [toPs, List.map_cons] at e
      cases q : toP (deref n S d) with
      | none => rw [q] at e; cases e
      | some p =>
        rw [q] at e
        cases q2 : toPs (l.map (deref n S)) with
        | none => rw [q2] at e; cases e
        | some ps' =>
          rw [q2] at e
          cases e
          exact .cons (ih d _ p h q) (deref_all n ih l _ ps' t q2)
theorem deref_dp (sr : SR K L io H S) : ∀ (n : Nat) (d : Dv) (v : V) (p : PyData), VR K L io H v d → toP (deref n S d) = some p → Dp K H v p
  | 0, d, v, p, r, e => toP_ok d v p r e
  | n + 1, .tup l, v, p, r, e => by
    obtain ⟨a, xs, rfl, s, t⟩ := r.tupS
    simp only [deref, toP] at e
    cases q : toPs (l.map (deref n S)) with
    | none => rw [q] at e; cases e
    | some ps => rw [q] at e; cases e; exact .tup s (deref_all n (deref_dp sr n) l xs ps t q)
  | n + 1, .lst l, v, p, r, e => by
    simp only [deref, toP] at e
    cases q : toPs (l.map (deref n S)) with
    | none => rw [q] at e; cases e
    | some ps =>
      rw [q] at e; cases e
      cases r with
      | lst nl h t => exact .lst (SqL.of h) (deref_all n (deref_dp sr n) l _ ps t q)
  | n + 1, .rol l, v, p, r, e => by
    simp only [deref, toP] at e
    cases q : toPs (l.map (deref n S)) with
    | none => rw [q] at e; cases e
    | some ps =>
      rw [q] at e; cases e
      cases r with
      | rol nl h t => exact .lst (.inl h) (deref_all n (deref_dp sr n) l _ ps t q)
      | rolK h t => exact .lst (h H) (deref_all n (deref_dp sr n) l _ ps t q)
  | n + 1, .hdl k, v, p, r, e => by
    cases q0 : S[k]? with
    | none => simp only [deref, q0, toP] at e; cases e
    | some o =>
      cases o with
      | lst l =>
        simp only [deref, q0, toP] at e
        cases q : toPs (l.map (deref n S)) with
        | none => rw [q] at e; cases e
        | some ps =>
          rw [q] at e; cases e
          cases r with
          | hdl hk =>
            obtain ⟨xs, h, t⟩ := sr.obj k _ _ hk q0
            exact .lst (SqL.of h) (deref_all n (deref_dp sr n) l xs ps t q)
      | dct l => simp only [deref, q0, toP] at e; cases e
      | ins c fs => simp only [deref, q0, toP] at e; cases e
      | ext _ _ _ => simp only [deref, q0, toP] at e; cases e
  | n + 1, .non, v, p, r, e => toP_ok _ v p r e
  | n + 1, .bl _, v, p, r, e => toP_ok _ v p r e
  | n + 1, .int _, v, p, r, e => toP_ok _ v p r e
  | n + 1, .str _, v, p, r, e => toP_ok _ v p r e
  | n + 1, .dic _, v, p, r, e => by simp [deref, toP] at e
  | n + 1, .obj _ _, v, p, r, e => toP_ok _ v p r e
  | n + 1, .glo _, v, p, r, e => toP_ok _ v p r e
  | n + 1, .ty _, v, p, r, e => toP_ok _ v p r e
  | n + 1, .ext _ _ _ _, v, p, r, e => toP_ok _ v p r e
/-- as a whole -/
def res (S : Sto) (d : Dv) : Dv := deref 40 S d
theorem res_dp (sr : SR K L io H S) {v : V} {d : Dv} {p : PyData} (r : VX K L io H v d) (e : toP (res S d) = some p) : Dp K H v p := by
  rcases r with r | ⟨a, o, rfl, rfl, np, ob⟩
  · exact deref_dp sr 40 d v p r e
  · cases o with
    | lst l =>
      simp only [vwO, res, deref, toP] at e
      cases q : toPs (l.map (deref 39 S)) with
      | none => rw [q] at e; cases e
      | some ps =>
        rw [q] at e; cases e
        obtain ⟨xs, h, t⟩ := ob
        exact .lst (SqL.of h) (deref_all 39 (deref_dp sr 39) l xs ps t q)
    | dct l => simp [vwO, res, deref, toP] at e
    | ins c fs => simp [vwO, res, deref, toP] at e
    | ext _ _ _ => simp [vwO, res, deref, toP] at e
end
/-- two lists of unlike lengths -/
def lenNe : Option (List Dv) → Option (List Dv) → Bool
  | some l, some m => l.length != m.length
  | _, _ => false
def deepE (S : Sto) (a b : Dv) : Option Bool := (toP (res S a)).bind fun p => (toP (res S b)).bind fun q => if SeqAt.shaped p && SeqAt.shaped q then some (PyData.eqv p q) else none
def eqD (S : Sto) : Dv → Dv → Option Bool
  | .str x, .str y => some (decide (x = y))
  | .int x, .int y => some (decide (x = y))
  | .bl x, .bl y => some (decide (x = y))
  | .non, .non => some true
  | .non, .int _ => some false
  | .non, .bl _ => some false
  | .non, .str _ => some false
  | .int _, .non => some false
  | .int _, .str _ => some false
  | .bl _, .non => some false
  | .bl _, .str _ => some false
  | .str _, .non => some false
  | .str _, .int _ => some false
  | .str _, .bl _ => some false
  | a, b => if lenNe (asL S a) (asL S b) then some false else deepE S a b
def eqE : Sto → Dv → Dv → Option (Dv × Sto) := fun S a b => (eqD S a b).map fun c => (.bl c, S)
def neE : Sto → Dv → Dv → Option (Dv × Sto) := fun S a b => (eqD S a b).map fun c => (.bl (!c), S)
/-- two lists of unlike lengths -/
def rLen (K : PySem.W.Frag) (b : Bool) : R2 := fun x y H Q => ∃ p q xs ys, x = .ref p ∧ y = .ref q ∧ SqL K H p xs ∧ SqL K H q ys ∧ xs.length ≠ ys.length ∧ Q (.bl b) H
theorem op_eqLen {X : Cx} (hu : X.A.units < cLine) : OpR X (compareOp .Eq) (rLen X.K false) := by
  rintro pins s σ H x y v u Q I rx ry ⟨p, q, xs, ys, rfl, rfl, h1, h2, hl, z⟩
  cases rx; cases ry
  obtain ⟨its, r1, l1, _⟩ := I.list h1
  obtain ⟨its2, r2, l2, _⟩ := I.list h2
  refine SeqAt.eq_list_lengthsAt l1.isList l2.isList ?_ hu ⟨.bl _, H, I, rfl, z⟩
  rw [List.size_toArray, List.size_toArray, ← r1.length, ← r2.length]
  simpa using hl
theorem op_neLen {X : Cx} (hu : X.A.units < cLine) : OpR X (compareOp .NotEq) (rLen X.K true) := by
  rintro pins s σ H x y v u Q I rx ry ⟨p, q, xs, ys, rfl, rfl, h1, h2, hl, z⟩
  cases rx; cases ry
  obtain ⟨its, r1, l1, _⟩ := I.list h1
  obtain ⟨its2, r2, l2, _⟩ := I.list h2
  refine SeqAt.RcNeAt.lists_lengths l1.isList l2.isList ?_ hu _ _ _ _ ⟨.bl _, H, I, rfl, z⟩
  rw [List.size_toArray, List.size_toArray, ← r1.length, ← r2.length]
  simpa using hl
def rEqA (K : PySem.W.Frag) : R2 := fun x y H Q => (rEq x y H Q ∨ rEqD K x y H Q) ∨ rLen K false x y H Q
def rNeA (K : PySem.W.Frag) : R2 := fun x y H Q => (rNe x y H Q ∨ rNeD K x y H Q) ∨ rLen K true x y H Q
theorem eqD_deep {S : Sto} {a b : Dv} {c : Bool} (e : eqD S a b = some c) : (∃ x y : V, scal x y = true ∧ c = decide (x = y) ∧ ∀ (K : PySem.W.Frag) L io H v w, VX K L io H v a → VX K L io H w b → v = x ∧ w = y) ∨ (∃ p q, toP (res S a) = some p ∧ toP (res S b) = some q ∧ SeqAt.shaped p = true ∧ SeqAt.shaped q = true ∧ c = PyData.eqv p q) ∨ ∃ l m, asL S a = some l ∧ asL S b = some m ∧ l.length ≠ m.length ∧ c = false := by
  have deep : (if lenNe (asL S a) (asL S b) then some false else deepE S a b) = some c → (∃ p q, toP (res S a) = some p ∧ toP (res S b) = some q ∧ SeqAt.shaped p = true ∧ SeqAt.shaped q = true ∧ c = PyData.eqv p q) ∨ ∃ l m, asL S a = some l ∧ asL S b = some m ∧ l.length ≠ m.length ∧ c = false := by
    intro e
    split at e
    · rename_i hl
      cases e
      cases h1 : asL S a with
      | none => rw [h1] at hl; cases hl
      | some l =>
        cases h2 : asL S b with
        | none => rw [h1, h2] at hl; cases hl
        | some m => rw [h1, h2] at hl; exact .inr ⟨l, m, rfl, rfl, by simpa [lenNe] using hl, rfl⟩
    · unfold deepE at e
      cases h1 : toP (res S a) with
      | none => rw [h1] at e; cases e
      | some p =>
        cases h2 : toP (res S b) with
        | none => rw [h1, h2] at e; cases e
        | some q =>
          rw [h1, h2] at e
          simp only [Option.bind_some] at e
          split at e
          · rename_i hs
            simp only [Bool.and_eq_true] at hs
            cases e
            exact .inl ⟨p, q, rfl, rfl, hs.1, hs.2, rfl⟩
          · cases e
  cases a <;> cases b <;> first
    | exact .inr (deep e)
    | (refine .inl ⟨_, _, ?_, ?_, fun K L io H v w r1 r2 => by cases r1.vr rfl; cases r2.vr rfl; exact ⟨rfl, rfl⟩⟩
       · rfl
       · cases e; first
          | rfl
          | (simp))
theorem ops_eq {K : PySem.W.Frag} : OpS K (rEqA K) eqE := by
  intro L io H S x y a b d S' Q sr ra rb e q
  unfold eqE at e
  cases h : eqD S a b with
  | none => rw [h] at e; cases e
  | some c =>
    rw [h] at e; cases e
    have fin := q (.bl c) H L io (Stp.refl ..) sr (.bl c)
    rcases eqD_deep h with ⟨x', y', h1, rfl, h3⟩ | ⟨p, p', h1, h2, h3, h4, rfl⟩ | ⟨l, m, h1, h2, h3, rfl⟩
    · obtain ⟨rfl, rfl⟩ := h3 K L io H x y ra rb
      exact .inl (.inl ⟨h1, fin⟩)
    · exact .inl (.inr ⟨p, p', res_dp sr ra h1, res_dp sr rb h2, h3, h4, fin⟩)
    · obtain ⟨p, xs, rfl, s1, t1⟩ := asL_x sr ra h1
      obtain ⟨q, ys, rfl, s2, t2⟩ := asL_x sr rb h2
      exact .inr ⟨p, q, xs, ys, rfl, rfl, s1, s2, by rw [t1.len, t2.len]; exact h3, fin⟩
theorem ops_ne {K : PySem.W.Frag} : OpS K (rNeA K) neE := by
  intro L io H S x y a b d S' Q sr ra rb e q
  unfold neE at e
  cases h : eqD S a b with
  | none => rw [h] at e; cases e
  | some c =>
    rw [h] at e; cases e
    have fin := q (.bl (!c)) H L io (Stp.refl ..) sr (.bl _)
    rcases eqD_deep h with ⟨x', y', h1, rfl, h3⟩ | ⟨p, p', h1, h2, h3, h4, rfl⟩ | ⟨l, m, h1, h2, h3, rfl⟩
    · obtain ⟨rfl, rfl⟩ := h3 K L io H x y ra rb
      exact .inl (.inl ⟨h1, fin⟩)
    · exact .inl (.inr ⟨p, p', res_dp sr ra h1, res_dp sr rb h2, h3, h4, fin⟩)
    · obtain ⟨p, xs, rfl, s1, t1⟩ := asL_x sr ra h1
      obtain ⟨q, ys, rfl, s2, t2⟩ := asL_x sr rb h2
      exact .inr ⟨p, q, xs, ys, rfl, rfl, s1, s2, by rw [t1.len, t2.len]; exact h3, fin⟩
section
variable {X : Cx} {W : WX} {pos : Pos} {a b : Expr} {f1 f2 : DE} {k : Nat}
theorem op_eqA (hr : Room k X.A) : OpR X (compareOp .Eq) (rEqA X.K) := (op_eq.or (op_eqD hr.units)).or (op_eqLen hr.units0)
theorem op_neA (hr : Room k X.A) : OpR X (compareOp .NotEq) (rNeA X.K) := (op_ne.or (op_neD hr.units)).or (op_neLen hr.units0)
theorem qe_eq (hr : Room k X.A) (ha : QX X W a f1) (hb : QX X W b f2) : QE X W (.Compare a [.Eq] [b] pos) (eBin eqE f1 f2) := qe_cmp (op_eqA hr) ops_eq ha hb
theorem qe_ne (hr : Room k X.A) (ha : QX X W a f1) (hb : QX X W b f2) : QE X W (.Compare a [.NotEq] [b] pos) (eBin neE f1 f2) := qe_cmp (op_neA hr) ops_ne ha hb
theorem qt_eq (hr : Room k X.A) (ha : QX X W a f1) (hb : QX X W b f2) : QT X W (.Compare a [.Eq] [b] pos) (tVal (eBin eqE f1 f2)) := qt_cmp (op_eqA hr) ops_eq ha hb
theorem qt_ne (hr : Room k X.A) (ha : QX X W a f1) (hb : QX X W b f2) : QT X W (.Compare a [.NotEq] [b] pos) (tVal (eBin neE f1 f2)) := qt_cmp (op_neA hr) ops_ne ha hb
end
def flatD : Dv → Bool
  | .non => true
  | .bl _ => true
  | .int _ => true
  | .str _ => true
  | _ => false
def eqF : Dv → Dv → Bool
  | .non, .non => true
  | .bl a, .bl b => a == b
  | .bl a, .int b => (if a then 1 else 0) == b
  | .int a, .bl b => a == (if b then 1 else 0)
  | .int a, .int b => a == b
  | .str a, .str b => a == b
  | _, _ => false
def inF (x : Dv) (l : List Dv) : Bool := l.any fun y => eqF y x
def asQ (S : Sto) (d : Dv) : Option (List Dv) := match asT d with
  | some l => some l
  | none => asL S d
theorem asQ_x {K : PySem.W.Frag} {L : Addr → Prop} {io : List Addr} {H : Hp} {S : Sto} {v : V} {d : Dv} {l : List Dv} (s : SR K L io H S) (r : VX K L io H v d) (h : asQ S d = some l) : ∃ a xs, v = .ref a ∧ (SqL K H a xs ∨ SqT K H a xs) ∧ VRs K L io H xs l := by
  unfold asQ at h
  cases q : asT d with
  | some m =>
    rw [q] at h; cases h
    obtain ⟨a, xs, h1, h2, h3⟩ := asT_x r q
    exact ⟨a, xs, h1, .inr h2, h3⟩
  | none =>
    rw [q] at h
    obtain ⟨a, xs, h1, h2, h3⟩ := asL_x s r h
    exact ⟨a, xs, h1, .inl h2, h3⟩
def inD (neg : Bool) (S : Sto) (x y : Dv) : Option (Dv × Sto) := match y with
  | .str t => match x with
    | .str s => some (.bl (if neg then !(!(Builtin.Str.occurrences t s 0 t.length 1).isEmpty) else !(Builtin.Str.occurrences t s 0 t.length 1).isEmpty), S)
    | _ => none
  | _ => (asQ S y).bind fun l => if flatD x && l.all flatD then some (.bl (if neg then !inF x l else inF x l), S) else none
section
variable {K : PySem.W.Frag} {L : Addr → Prop} {io : List Addr} {H : Hp}
theorem flat_ok {v : V} {d : Dv} (r : VR K L io H v d) (h : flatD d = true) : flatV v = true := by
  cases r <;> first | rfl | cases h
theorem flats_ok : ∀ {vs : List V} {l : List Dv}, VRs K L io H vs l → l.all flatD = true → vs.all flatV = true
  | _, _, .nil, _ => rfl
  | _, _, .cons r t, h => by
    rw [List.all_cons, Bool.and_eq_true] at h
    rw [List.all_cons, flat_ok r h.1, flats_ok t h.2]
    rfl
theorem eqF_ok {v w : V} {a b : Dv} (r1 : VR K L io H v a) (r2 : VR K L io H w b) (h1 : flatD a = true) (h2 : flatD b = true) : eqV v w = eqF a b := by
  cases r1 <;> first | (cases h1; done) | (cases r2 <;> first | rfl | cases h2)
theorem inF_ok {v : V} {x : Dv} (r : VR K L io H v x) (hx : flatD x = true) : ∀ {vs : List V} {l : List Dv}, VRs K L io H vs l → l.all flatD = true → inV v vs = inF x l
  | _, _, .nil, _ => rfl
  | _, _, .cons q t, h => by
    rw [List.all_cons, Bool.and_eq_true] at h
    have ih := inF_ok r hx t h.2
    unfold inV inF at ih ⊢
    rw [List.any_cons, List.any_cons, ih, eqF_ok q r h.1 hx]
end
theorem ops_inN {K : PySem.W.Frag} (neg : Bool) : OpS K (fun x y H Q => rIn K neg x y H Q ∨ ∃ i j, x = .str i ∧ y = .str j ∧ Q (.bl (if neg then !(!(Builtin.Str.occurrences j i 0 j.length 1).isEmpty) else !(Builtin.Str.occurrences j i 0 j.length 1).isEmpty)) H) (inD neg) := by
  intro L io H S x y a b d S' Q sr ra rb e q
  have seq : ((asQ S b).bind fun l => if flatD a && l.all flatD then some (Dv.bl (if neg then !inF a l else inF a l), S) else none) = some (d, S') → rIn K neg x y H Q := by
    intro e
    cases h : asQ S b with
    | none => rw [h] at e; cases e
    | some l =>
      rw [h] at e
      simp only [Option.bind_some] at e
      split at e
      · rename_i hf
        rw [Bool.and_eq_true] at hf
        cases e
        obtain ⟨p, xs, rfl, hs, t⟩ := asQ_x sr rb h
        have ra' := ra.vr (by cases a <;> first | rfl | cases hf.1)
        refine ⟨p, xs, rfl, hs, flat_ok ra' hf.1, flats_ok t hf.2, ?_⟩
        rw [inF_ok ra' hf.1 t hf.2]
        exact q _ H L io (Stp.refl ..) sr (.bl _)
      · cases e
  cases b with
  | str t =>
    cases a with
    | str s =>
      cases e; cases ra.vr rfl; cases rb.vr rfl
      exact .inr ⟨s, t, rfl, rfl, q _ H L io (Stp.refl ..) sr (.bl _)⟩
    | _ => cases e
  | _ => exact .inl (seq e)
section
variable {X : Cx} {W : WX} {pos : Pos} {a b : Expr} {f1 f2 : DE}
theorem qe_in (ha : QX X W a f1) (hb : QX X W b f2) (hm : behindInMarks .In b = false := by rfl) : QE X W (.Compare a [.In] [b] pos) (eBin (inD false) f1 f2) := qe_cmp (op_in_seq.or op_in_str) (ops_inN false) ha hb hm
theorem qe_ni (ha : QX X W a f1) (hb : QX X W b f2) (hm : behindInMarks .NotIn b = false := by rfl) : QE X W (.Compare a [.NotIn] [b] pos) (eBin (inD true) f1 f2) := qe_cmp (op_notIn_seq.or op_notin_str) (ops_inN true) ha hb hm
theorem qt_in (ha : QX X W a f1) (hb : QX X W b f2) (hm : behindInMarks .In b = false := by rfl) : QT X W (.Compare a [.In] [b] pos) (tVal (eBin (inD false) f1 f2)) := qt_cmp (op_in_seq.or op_in_str) (ops_inN false) ha hb hm
theorem qt_ni (ha : QX X W a f1) (hb : QX X W b f2) (hm : behindInMarks .NotIn b = false := by rfl) : QT X W (.Compare a [.NotIn] [b] pos) (tVal (eBin (inD true) f1 f2)) := qt_cmp (op_notIn_seq.or op_notin_str) (ops_inN true) ha hb hm
end
def isD (neg : Bool) : Dv → Dv → Option Dv
  | a, .non => some (.bl (match a with
    | .non => !neg
    | _ => neg))
  | .bl x, .bl y => some (.bl (if neg then !decide (x = y) else decide (x = y)))
  | _, _ => none
theorem ops_is {K : PySem.W.Frag} : OpS K (fun x y H Q => (y = .non ∧ Q (.bl (decide (x = .non))) H) ∨ rIsB x y H Q) (pu2 (isD false)) := by
  intro L io H S x y a b d S' Q sr ra rb e q
  obtain ⟨e, rfl⟩ := pu2_ok e
  cases b with
  | non =>
    cases e; cases rb.vr rfl
    refine .inl ⟨rfl, ?_⟩
    have := q _ H L io (Stp.refl ..) sr (.bl _)
    rcases ra with ra | ⟨p, o, rfl, rfl, _⟩
    · cases ra <;> exact this
    · cases o <;> exact this
  | bl z =>
    cases a with
    | bl y =>
      cases e; cases ra.vr rfl; cases rb.vr rfl
      exact .inr ⟨y, z, rfl, rfl, q _ H L io (Stp.refl ..) sr (.bl _)⟩
    | _ => cases e
  | _ => cases a <;> cases e
theorem ops_isnot {K : PySem.W.Frag} : OpS K (fun x y H Q => (y = .non ∧ Q (.bl (!decide (x = .non))) H) ∨ rNotB x y H Q) (pu2 (isD true)) := by
  intro L io H S x y a b d S' Q sr ra rb e q
  obtain ⟨e, rfl⟩ := pu2_ok e
  cases b with
  | non =>
    cases e; cases rb.vr rfl
    refine .inl ⟨rfl, ?_⟩
    have := q _ H L io (Stp.refl ..) sr (.bl _)
    rcases ra with ra | ⟨p, o, rfl, rfl, _⟩
    · cases ra <;> exact this
    · cases o <;> exact this
  | bl z =>
    cases a with
    | bl y =>
      cases e; cases ra.vr rfl; cases rb.vr rfl
      exact .inr ⟨y, z, rfl, rfl, q _ H L io (Stp.refl ..) sr (.bl _)⟩
    | _ => cases e
  | _ => cases a <;> cases e
section
variable {X : Cx} {W : WX} {pos : Pos} {a b : Expr} {f1 f2 : DE}
theorem qt_is (ha : QX X W a f1) (hb : QX X W b f2) : QT X W (.Compare a [.Is] [b] pos) (tVal (eBin (pu2 (isD false)) f1 f2)) := qt_cmp (op_isN.or op_isBl) ops_is ha hb
theorem qt_isnot (ha : QX X W a f1) (hb : QX X W b f2) : QT X W (.Compare a [.IsNot] [b] pos) (tVal (eBin (pu2 (isD true)) f1 f2)) := qt_cmp (op_notN.or op_notBl) ops_isnot ha hb
end
end DL
namespace DL
open PySem L2
def truD (S : Sto) : Dv → Option Bool
  | .non => some false
  | .bl b => some b
  | .int i => some (i != 0)
  | .str x => if x.length ≤ sizeLine then some ((x.length : Int) != 0) else none
  | .tup l => some (!l.isEmpty)
  | .lst l => some (!l.isEmpty)
  | .rol l => some (!l.isEmpty)
  | .dic l => some (!l.isEmpty)
  | .hdl k => match S[k]? with
    | some (.lst l) => some (!l.isEmpty)
    | some (.dct l) => some (!l.isEmpty)
    | _ => none
  | _ => none
/-- a value's truth, of a locked dict, too -/
def TruW (K : PySem.W.Frag) (x : V) (H : Hp) (k : Bool) : Prop := TruV K x H k ∨ ∃ p kvs, x = .ref p ∧ Rd H p (.dK kvs) ∧ k = !kvs.isEmpty
theorem truW_ok {X : Cx} : TruR X (fun x H Q => ∃ k, TruW X.K x H k ∧ Q k H) := by
  intro pins s σ H x v Q I rx ⟨k, e, q⟩
  rcases e with e | ⟨p, kvs, rfl, hx, rfl⟩
  · exact tru_ok pins s σ H x v Q I rx ⟨k, e, q⟩
  · cases rx
    have hl := line63
    have hs : sizeLine = 16777216 := sizeLine_eq
    obtain ⟨hz, hS, vs, r, m⟩ := dk_rd I.hok hx
    have hlen : kvs.length = vs.length := Paired.length r
    exact wpAny_truthy_dict hS m (by omega) ⟨H, I.tok _, by rw [isEmpty_kv r]; exact q⟩
open PySem.Spec PyProof.Rows in
theorem pt_truthW {X : Cx} {a : Expr} {ta : TE} (ha : PE X a ta) (he : ∀ whole, isTrue a X.env whole = (do let v ← whole; standAt a.pos; holding [v] (truthy v))) :
    PT X a (fun σ H Q => ta σ H fun x H' => ∃ k, TruW X.K x H' k ∧ Q k H') := by
  refine ⟨fun pins s σ H Q I h => ?_⟩
  exact isTrue_plain (thn (ha.run pins s σ H _ I h) fun v s1 ⟨x, H1, I1, r1, q1⟩ => truW_ok pins s1 σ H1 x v Q I1 r1 q1) (he _)
section
variable {X : Cx} {a b : Expr} {ta tb : TE} {rest : List Expr} {pos : Pos}
def tOrW (K : PySem.W.Frag) (ta tb : TE) : TE := fun σ H Q => ta σ H fun x H1 => ∃ k, TruW K x H1 k ∧ if k = true then Q x H1 else tb σ H1 Q
def tAndW (K : PySem.W.Frag) (ta tb : TE) : TE := fun σ H Q => ta σ H fun x H1 => ∃ k, TruW K x H1 k ∧ if k = true then tb σ H1 Q else Q x H1
open PySem.Spec PyProof.Rows in
theorem pe_orW (ha : PE X a ta) (hb : PE X (.BoolOp .Or (b :: rest) pos) tb) : PE X (.BoolOp .Or (a :: b :: rest) pos) (tOrW X.K ta tb) := by
  refine ⟨fun pins s σ H Q I h => ?_⟩
  refine BoolOp_or (thn (ha.run pins s σ H _ I h) fun v s1 ⟨x, H1, I1, r1, q1⟩ => ?_)
  obtain ⟨k, e, q1⟩ := q1
  refine thn (truW_ok pins s1 σ H1 x v (fun c H2 => c = k ∧ H2 = H1) I1 r1 ⟨k, e, rfl, rfl⟩) fun c s2 hc => ?_
  obtain ⟨H2, I2, e1, e2⟩ := hc
  rw [e2] at I2
  rw [← e1] at q1
  cases c with
  | true => exact ⟨x, H1, I2, r1, q1⟩
  | false => exact hb.run pins s2 σ H1 Q I2 q1
open PySem.Spec PyProof.Rows in
theorem pe_andW (ha : PE X a ta) (hb : PE X (.BoolOp .And (b :: rest) pos) tb) : PE X (.BoolOp .And (a :: b :: rest) pos) (tAndW X.K ta tb) := by
  refine ⟨fun pins s σ H Q I h => ?_⟩
  refine BoolOp_and (thn (ha.run pins s σ H _ I h) fun v s1 ⟨x, H1, I1, r1, q1⟩ => ?_)
  obtain ⟨k, e, q1⟩ := q1
  refine thn (truW_ok pins s1 σ H1 x v (fun c H2 => c = k ∧ H2 = H1) I1 r1 ⟨k, e, rfl, rfl⟩) fun c s2 hc => ?_
  obtain ⟨H2, I2, e1, e2⟩ := hc
  rw [e2] at I2
  rw [← e1] at q1
  cases c with
  | true => exact hb.run pins s2 σ H1 Q I2 q1
  | false => exact ⟨x, H1, I2, r1, q1⟩
end
section
variable {K : PySem.W.Frag} {L : Addr → Prop} {io : List Addr} {H : Hp} {S : Sto}
theorem VRs.empty {vs : List V} {l : List Dv} (r : VRs K L io H vs l) : vs.isEmpty = l.isEmpty := by cases r <;> rfl
theorem PairR.len {α : Type} {R : V → Dv → Prop} : ∀ {l : List (α × V)} {m : List (α × Dv)}, PairR R l m → l.length = m.length
  | _, _, .nil => rfl
  | _, _, .cons _ t => by rw [List.length_cons, List.length_cons, PairR.len t]
theorem truD_ok0 (s : SR K L io H S) {v : V} {d : Dv} {b : Bool} (rx : VX K L io H v d) (hd : ∀ l, d ≠ .dic l) (e : truD S d = some b) : TruV K v H b := by
  have seq : ∀ {l : List Dv}, asL S d = some l → b = !l.isEmpty → TruV K v H b := fun h eb => by
    obtain ⟨a, xs, rfl, h1, h2⟩ := asL_x s rx h
    exact .inl ⟨xs, h1, by rw [h2.empty]; exact eb⟩
  cases d with
  | non => cases rx.vr rfl; cases e; rfl
  | bl => cases rx.vr rfl; cases e; rfl
  | int => cases rx.vr rfl; cases e; rfl
  | str x =>
    cases rx.vr rfl
    simp only [truD] at e
    split at e
    · rename_i h; cases e; exact ⟨h, rfl⟩
    · cases e
  | tup l =>
    obtain ⟨a, xs, rfl, h1, h2⟩ := (rx.vr rfl).tupS
    cases e
    exact .inr (.inl ⟨xs, h1, by rw [h2.empty]⟩)
  | lst l => cases e; exact seq rfl rfl
  | rol l => cases e; exact seq rfl rfl
  | dic l => exact absurd rfl (hd l)
  | hdl k =>
    have r := rx.vr rfl
    cases q : S[k]? with
    | none => simp [truD, q] at e
    | some o =>
      cases o with
      | lst l =>
        simp [truD, q] at e
        exact seq (l := l) (by simp [asL, q]) (by rw [e]; simp)
      | dct l =>
        simp [truD, q] at e
        cases r with
        | hdl hk =>
          obtain ⟨kvs, h1, h2⟩ := s.obj k _ _ hk q
          refine .inr (.inr ⟨kvs, h1, ?_⟩)
          have e2 : kvs.isEmpty = l.isEmpty := by cases h2 <;> rfl
          rw [e2, e]
          simp
      | ins => simp [truD, q] at e
      | ext => simp [truD, q] at e
  | _ => simp [truD] at e
theorem truD_ok (s : SR K L io H S) {v : V} {d : Dv} {b : Bool} (rx : VX K L io H v d) (e : truD S d = some b) : TruW K v H b := by
  cases d with
  | dic l =>
    cases e
    rcases rx with r | ⟨p, o, rfl, h, np, ob⟩
    · cases r with
      | dic n h t =>
        refine .inr ⟨_, _, rfl, h, ?_⟩
        cases t <;> rfl
    · cases o with
      | dct m =>
        cases h
        obtain ⟨kvs, h1, h2⟩ := ob
        refine .inr ⟨p, kvs, rfl, .inl h1, ?_⟩
        cases h2 <;> rfl
      | _ => cases h
  | _ => exact .inl (truD_ok0 s rx (fun l z => nomatch z) e)
end
def truR (a : Dv) (S : Sto) : Res Bool := ofO ((truD S a).map fun b => (b, S))
def tTru (f : DE) : DT := fun e S => bnd (f e S) truR
theorem map_ok {α β : Type} {o : Option α} {f : α → β} {b : β} (h : o.map f = some b) : ∃ a, o = some a ∧ f a = b := by
  cases o with
  | none => cases h
  | some a => exact ⟨a, rfl, Option.some.inj h⟩
section
variable {X : Cx} {W : WX} {pos : Pos} {a b c : Expr} {f f1 f2 : DE} {t1 t2 : DT} {rest : List Expr}
theorem qt_tru (ha : QX X W a f) (he : ∀ whole, isTrue a X.env whole = (do let v ← whole; standAt a.pos; holding [v] (truthy v)) := by intro _; rfl) : QT X W a (tTru f) :=
  pt_imp (pt_truthW ha he) fun g H Q q => by
    refine Rdg.bind (R := VX X.K) (k := fun _ => truR) q fun L0 io0 H0 L io H1 e S d v fr rv q => ?_
    obtain ⟨d, S', h1, h2⟩ := q.opt
    obtain ⟨b, h3, h4⟩ := map_ok h1
    cases h4
    exact ⟨_, truD_ok fr.st rv h3, h2 _ H1 L io (Stp.refl ..) fr.st rfl⟩
/-- and, or, not as tests -/
def tAnd' (t1 t2 : DT) : DT := fun e S => bnd (t1 e S) fun b S1 => if b then t2 e S1 else .ok false S1
def tOr' (t1 t2 : DT) : DT := fun e S => bnd (t1 e S) fun b S1 => if b then .ok true S1 else t2 e S1
def tNot' (t1 : DT) : DT := fun e S => bnd (t1 e S) fun b S1 => .ok (!b) S1
theorem rd_and {K : PySem.W.Frag} {g : St} {H : Hp} {Q : Bool → Hp → Prop} (q : rdt K W (tAnd' t1 t2) g H Q) : tAnd (rdt K W t1) (rdt K W t2) g H Q := by
  refine Rdg.bind (R := fun _ _ _ (v : Bool) d => v = d) (k := fun e b S1 => if b then t2 e S1 else .ok false S1) q fun L0 io0 H0 L io H1 e S d v fr rv q => ?_
  subst rv
  cases v with
  | true => exact (iteT (Fin.rdg fr q))
  | false => exact (iteF (q.ok1 fr.st rfl))
theorem rd_or {K : PySem.W.Frag} {g : St} {H : Hp} {Q : Bool → Hp → Prop} (q : rdt K W (tOr' t1 t2) g H Q) : tOr (rdt K W t1) (rdt K W t2) g H Q := by
  refine Rdg.bind (R := fun _ _ _ (v : Bool) d => v = d) (k := fun e b S1 => if b then .ok true S1 else t2 e S1) q fun L0 io0 H0 L io H1 e S d v fr rv q => ?_
  subst rv
  cases v with
  | true => exact (iteT (q.ok1 fr.st rfl))
  | false => exact (iteF (Fin.rdg fr q))
abbrev QW (X : Cx) (W : WX) (e : Expr) (f : DT) : Prop := PW X e (rdt X.K W f)
theorem qw_and1 (ha : QT X W a t1) : QW X W (.BoolOp .And [a] pos) t1 := pw_and1 ha
theorem qw_or1 (ha : QT X W a t1) : QW X W (.BoolOp .Or [a] pos) t1 := pw_or1 ha
theorem qw_and (ha : QT X W a t1) (hb : QW X W (.BoolOp .And (b :: rest) pos) t2) : QW X W (.BoolOp .And (a :: b :: rest) pos) (tAnd' t1 t2) := pw_imp (pw_and ha hb) fun _ _ _ q => rd_and q
theorem qw_or (ha : QT X W a t1) (hb : QW X W (.BoolOp .Or (b :: rest) pos) t2) : QW X W (.BoolOp .Or (a :: b :: rest) pos) (tOr' t1 t2) := pw_imp (pw_or ha hb) fun _ _ _ q => rd_or q
theorem qt_w (h : QW X W a t1) : QT X W a t1 := PW.pt h
theorem qt_not (ha : QT X W a t1) : QT X W (.UnaryOp .Not a pos) (tNot' t1) := pt_imp (pt_not ha) fun g H Q q => by
  refine Rdg.bind (R := fun _ _ _ (v : Bool) d => v = d) (k := fun e b S1 => .ok (!b) S1) q fun L0 io0 H0 L io H1 e S d v fr rv q => ?_
  subst rv
  exact q.ok1 fr.st rfl
/-- a if t else b -/
def eIf (t : DT) (f1 f2 : DE) : DE := fun e S => bnd (t e S) fun b S1 => if b then f1 e S1 else f2 e S1
theorem qe_if (hc : QT X W c t1) (ha : QE X W a f1) (hb : QE X W b f2) : QE X W (.IfExp c a b pos) (eIf t1 f1 f2) := pe_imp (pe_ifExp hc ha hb) fun g H Q q => by
  refine Rdg.bind (R := fun _ _ _ (v : Bool) d => v = d) (k := fun e b S1 => if b then f1 e S1 else f2 e S1) q fun L0 io0 H0 L io H1 e S d v fr rv q => ?_
  subst rv
  cases v with
  | true => exact (iteT (Fin.rdg fr q))
  | false => exact (iteF (Fin.rdg fr q))
/-- and, or, not as values -/
def eAnd (f1 f2 : DE) : DE := fun e S => bnd (f1 e S) fun a S1 => bnd (truR a S1) fun k S2 => if k then f2 e S2 else .ok a S2
def eOr (f1 f2 : DE) : DE := fun e S => bnd (f1 e S) fun a S1 => bnd (truR a S1) fun k S2 => if k then .ok a S2 else f2 e S2
def eNot (f1 : DE) : DE := fun e S => bnd (f1 e S) fun a S1 => bnd (truR a S1) fun k S2 => .ok (.bl (!k)) S2
theorem Fin.tru {α' β' : Type} {K : PySem.W.Frag} {R' : (Addr → Prop) → List Addr → Hp → β' → α' → Prop} {g : St} {L : Addr → Prop} {io : List Addr} {H : Hp} {Q : β' → Hp → Prop} {k : Bool → Sto → Res α'} {a : Dv} {v : V} {S : Sto} (h : Fin K W R' g L io H Q (bnd (truR a S) k)) (sr : SR K L io H S) (r : VR K L io H v a) :
    ∃ b, TruW K v H b ∧ Fin K W R' g L io H Q (k b S) := by
  unfold truR at h
  cases q : truD S a with
  | none => rw [q] at h; exact h.elim
  | some b => rw [q] at h; exact ⟨b, truD_ok sr (.inl r) q, h⟩
theorem qe_one {op} (h : QE X W a f) : QE X W (.BoolOp op [a] pos) f := pe_one h
theorem qe_and (ha : QE X W a f1) (hb : QE X W (.BoolOp .And (b :: rest) pos) f2) : QE X W (.BoolOp .And (a :: b :: rest) pos) (eAnd f1 f2) := pe_imp (pe_andW ha hb) fun g H Q q => by
  refine Rdg.bind (R := VR X.K) (k := fun e a S1 => bnd (truR a S1) fun k S2 => if k then f2 e S2 else .ok a S2) q fun L0 io0 H0 L io H1 e S d v fr rv q => ?_
  obtain ⟨k, h1, q⟩ := q.tru fr.st rv
  refine ⟨k, h1, ?_⟩
  cases k with
  | true => exact (iteT (Fin.rdg fr q))
  | false => exact (iteF (q.ok1 fr.st rv))
theorem qe_or (ha : QE X W a f1) (hb : QE X W (.BoolOp .Or (b :: rest) pos) f2) : QE X W (.BoolOp .Or (a :: b :: rest) pos) (eOr f1 f2) := pe_imp (pe_orW ha hb) fun g H Q q => by
  refine Rdg.bind (R := VR X.K) (k := fun e a S1 => bnd (truR a S1) fun k S2 => if k then .ok a S2 else f2 e S2) q fun L0 io0 H0 L io H1 e S d v fr rv q => ?_
  obtain ⟨k, h1, q⟩ := q.tru fr.st rv
  refine ⟨k, h1, ?_⟩
  cases k with
  | true => exact (iteT (q.ok1 fr.st rv))
  | false => exact (iteF (Fin.rdg fr q))
variable {es : List Expr} {fa : DA}
def aNil : DA := fun _ S => .ok [] S
def aCons (f : DE) (fa : DA) : DA := fun e S => bnd (f e S) fun d S1 => bnd (fa e S1) fun l S2 => .ok (d :: l) S2
theorem qa_nil : QA X W [] aNil := pa_imp pa_nil fun g H Q q => by
  obtain ⟨L0, io0, H0, L, io, e, S, fr, q⟩ := q
  exact q.ok1 fr.st .nil
theorem qa_cons (ha : QE X W a f) (hr : QA X W es fa) (hs : starEach (a :: es) X.env = (false, eval a X.env) :: starEach es X.env := by rfl) : QA X W (a :: es) (aCons f fa) := pa_imp (pa_cons ha hr hs) fun g H Q q => by
  refine Rdg.bind (R := VR X.K) (k := fun e d S1 => bnd (fa e S1) fun l S2 => .ok (d :: l) S2) q fun L0 io0 H0 L io H1 e S d v fr rv q => ?_
  refine Fin.bind (R := VRs X.K) (k := fun l S2 => .ok (d :: l) S2) fr q fun L2 io2 H2 S2 l w s2 fr2 rw2 q => ?_
  exact q.ok1 fr2.st (.cons (rv.step s2 fr.st.sub) rw2)
def tupR (l : List Dv) (S : Sto) : Res Dv := if l.length ≤ sizeLine then .ok (.tup l) S else .no
def lstR (l : List Dv) (S : Sto) : Res Dv := if l.length ≤ sizeLine then .ok (.lst l) S else .no
def eTup (fa : DA) : DE := fun e S => bnd (fa e S) tupR
def eLst (fa : DA) : DE := fun e S => bnd (fa e S) lstR
theorem qe_tup {x1} (h : QA X W es fa) : QE X W (.Tuple es x1 pos) (eTup fa) := pe_imp (pe_tup h) fun g H Q q => by
  refine Rdg.bind (R := VRs X.K) (k := fun e => tupR) q fun L0 io0 H0 L io H1 e S d v fr rv q => ?_
  unfold tupR at q
  split at q
  · rename_i hl
    exact ⟨by rw [rv.len]; exact hl, fun p hp => q _ _ L io (Stp.alloc hp) (fr.st.alloc hp) (VR.newT fr.st hp rv)⟩
  · exact q.elim
end
section
variable {X : Cx} {W : WX} {a : Expr} {es : List Expr} {f : DE} {fa : DA}
theorem qxs_nil : QXs X W [] aNil := pa_imp pa_nil fun g H Q q => by
  obtain ⟨L0, io0, H0, L, io, e, S, fr, h⟩ := q
  exact h [] H L io (Stp.refl ..) fr.st .nil
theorem VXs.step {K : PySem.W.Frag} {L L' : Addr → Prop} {io io' : List Addr} {H H' : Hp} : ∀ {vs : List V} {l : List Dv}, VXs K L io H vs l → Stp L io H L' io' H' → (∀ x ∈ io, L x) → VXs K L' io' H' vs l
  | _, _, .nil, _, _ => .nil
  | _, _, .cons h t, s, sub => .cons (h.step s sub) (t.step s sub)
theorem qxs_cons (ha : QX X W a f) (hr : QXs X W es fa) (hs : starEach (a :: es) X.env = (false, eval a X.env) :: starEach es X.env := by rfl) : QXs X W (a :: es) (aCons f fa) := pa_imp (pa_cons ha hr hs) fun g H Q q => by
  refine Rdg.bind (R := VX X.K) (k := fun e d S1 => bnd (fa e S1) fun l S2 => .ok (d :: l) S2) q fun L0 io0 H0 L io H1 e S d v fr rv q => ?_
  refine Fin.bind (R := VXs X.K) (k := fun l S2 => .ok (d :: l) S2) fr q fun L2 io2 H2 S2 l vs s2 fr2 rvs q => ?_
  exact q.ok1 fr2.st (.cons (rv.step s2 fr.st.sub) rvs)
end
def CaS (K : PySem.W.Frag) (r : List V → Hp → VK → Prop) (h : Sto → List Dv → Option (Dv × Sto)) : Prop :=
  ∀ (L : Addr → Prop) (io : List Addr) (H : Hp) (S : Sto) (xs : List V) (l : List Dv) (d : Dv) (S' : Sto) (Q : VK), SR K L io H S → VXs K L io H xs l → h S l = some (d, S') →
    (∀ (v : V) (H' : Hp) (L' : Addr → Prop) (io' : List Addr), Stp L io H L' io' H' → SR K L' io' H' S' → VR K L' io' H' v d → Q v H') → r xs H Q
def eCB (h : Sto → List Dv → Option (Dv × Sto)) (fa : DA) : DE := fun e S => bnd (fa e S) fun l S1 => ofO (h S1 l)
theorem rd_cb {K : PySem.W.Frag} {W : WX} {r : List V → Hp → VK → Prop} {h : Sto → List Dv → Option (Dv × Sto)} {fa : DA} (hc : CaS K r h) {g : St} {H : Hp} {Q : VK} (q : rd K W (eCB h fa) g H Q) : tCB r (Rdg K W (VXs K) fa) g H Q := by
  refine Rdg.bind (R := VXs K) (k := fun _ l S1 => ofO (h S1 l)) q fun L0 io0 H0 L io H1 e S l v fr rv q => ?_
  obtain ⟨d, S', h1, h2⟩ := q.opt
  exact hc L io H1 S v l d S' Q fr.st rv h1 h2
section
variable {X : Cx} {W : WX} {pos p : Pos} {e : Expr} {es : List Expr} {fa : DA} {r : List V → Hp → VK → Prop} {h : Sto → List Dv → Option (Dv × Sto)} {x : Str} {id T : String}
theorem qe_callB (hc : CallR X (.builtin id) r) (hs : CaS X.K r h) (hm : X.mg x = none) (hv : bootBuiltins x = some (.builtin id)) (ha : QXs X W (e :: es) fa) (hg : Gl X x := by rfl) (hn : x ≠ "__name__" := by decide) (hdb : (x == ("__debug__" : Str)) = false := by decide)
    (he : starEach (e :: es) X.env = (false, eval e X.env) :: starEach es X.env := by rfl) (hpl : (backTo pos (starEach es X.env)).any (·.1) = false := by rfl) : QE X W (.Call (.Name x p) (e :: es) [] pos) (eCB h fa) :=
  pe_imp (pe_callB hc hg hm hv ha hn hdb he hpl) fun _ _ _ q => rd_cb hs q
theorem qe_callTy (hc : CallR X (.type T) r) (hs : CaS X.K r h) (hm : X.mg x = none) (hv : bootBuiltins x = some (.type T)) (ha : QXs X W (e :: es) fa) (hg : Gl X x := by rfl) (hn : x ≠ "__name__" := by decide) (hdb : (x == ("__debug__" : Str)) = false := by decide)
    (he : starEach (e :: es) X.env = (false, eval e X.env) :: starEach es X.env := by rfl) (hpl : (backTo pos (starEach es X.env)).any (·.1) = false := by rfl) : QE X W (.Call (.Name x p) (e :: es) [] pos) (eCB h fa) :=
  pe_imp (pe_callTy hc hg hm hv ha hn hdb he hpl) fun _ _ _ q => rd_cb hs q
end
def lenD (S : Sto) : List Dv → Option (Dv × Sto)
  | [.str x] => if x.length ≤ sizeLine then some (.int x.length, S) else none
  | [d] => (asQ S d).map fun l => (.int l.length, S)
  | _ => none
theorem cas_len {K : PySem.W.Frag} : CaS K (fun xs H Q => ∃ x n, xs = [x] ∧ LenV K x H n ∧ Q (.int n) H) lenD := by
  intro L io H S xs l d S' Q sr rv e q
  cases rv with
  | nil => cases e
  | cons r t =>
    cases t with
    | cons r2 t2 => rename_i dd _ _ _ _; cases dd <;> cases e
    | nil =>
      rename_i v dd
      have seq : (asQ S dd).map (fun l => ((.int l.length : Dv), S)) = some (d, S') → ∃ x n, [v] = [x] ∧ LenV K x H n ∧ Q (.int n) H := by
        intro e
        obtain ⟨l, h1, h2⟩ := map_ok e
        cases h2
        obtain ⟨a, xs, rfl, hs, t⟩ := asQ_x sr r h1
        have fin := q (.int l.length) H L io (Stp.refl ..) sr (.int _)
        refine ⟨_, l.length, rfl, ?_, fin⟩
        rcases hs with hs | hs
        · exact .inl ⟨xs, hs, t.len.symm⟩
        · exact .inr ⟨xs, hs, t.len.symm⟩
      cases dd with
      | str x =>
        simp only [lenD] at e
        split at e
        · rename_i h
          cases e; cases r.vr rfl
          exact ⟨_, x.length, rfl, ⟨h, rfl⟩, q _ H L io (Stp.refl ..) sr (.int _)⟩
        · cases e
      | _ => exact seq e
/-- abs, int -/
def absD (S : Sto) : List Dv → Option (Dv × Sto)
  | [.int i] => some (.int (if i < 0 then -i else i), S)
  | _ => none
theorem cas_abs {K : PySem.W.Frag} : CaS K (fun xs H Q => ∃ i, xs = [.int i] ∧ Q (.int (if i < 0 then -i else i)) H) absD := by
  intro L io H S xs l d S' Q sr rv e q
  cases rv with
  | nil => cases e
  | cons r t =>
    cases t with
    | cons r2 t2 => rename_i dd _ _ _ _; cases dd <;> cases e
    | nil =>
      rename_i v dd
      cases dd with
      | int i => cases r.vr rfl; cases e; exact ⟨i, rfl, q _ H L io (Stp.refl ..) sr (.int _)⟩
      | _ => cases e
/-- list(x), tuple(x) -/
def listD (S : Sto) : List Dv → Option (Dv × Sto)
  | [d] => (asQ S d).map fun l => (.lst l, S)
  | _ => none
theorem cas_list {K : PySem.W.Frag} : CaS K (fun xs H Q => ∃ p ys, xs = [.ref p] ∧ (SqL K H p ys ∨ SqT K H p ys) ∧ ∀ l, H l = none → Q (.ref l) (upd H l (.lst ys))) listD := by
  intro L io H S xs l d S' Q sr rv e q
  cases rv with
  | nil => cases e
  | cons r t =>
    cases t with
    | cons r2 t2 => cases e
    | nil =>
      obtain ⟨l, h1, h2⟩ := map_ok e
      cases h2
      obtain ⟨a, xs, rfl, hs, t⟩ := asQ_x sr r h1
      exact ⟨a, xs, rfl, hs, fun p hp => q _ _ L io (Stp.alloc hp) (sr.alloc hp) (VR.newL sr hp t)⟩
def tupleD (S : Sto) : List Dv → Option (Dv × Sto)
  | [d] => (asQ S d).map fun l => (.tup l, S)
  | _ => none
theorem cas_tuple {K : PySem.W.Frag} : CaS K (fun xs H Q => ∃ p ys, xs = [.ref p] ∧ ((SqL K H p ys ∧ ∀ l, H l = none → Q (.ref l) (upd H l (.tup ys))) ∨ (SqT K H p ys ∧ Q (.ref p) H))) tupleD := by
  intro L io H S xs l d S' Q sr rv e q
  cases rv with
  | nil => cases e
  | cons r t =>
    cases t with
    | cons r2 t2 => cases e
    | nil =>
      rename_i v dd
      obtain ⟨l, h1, h2⟩ := map_ok e
      cases h2
      unfold asQ at h1
      cases h : asT dd with
      | some m =>
        rw [h] at h1; cases h1
        obtain ⟨a, xs, rfl, hs, t⟩ := asT_x r h
        cases dd with
        | tup m' => cases h; exact ⟨a, xs, rfl, .inr ⟨hs, q _ H L io (Stp.refl ..) sr (r.vr rfl)⟩⟩
        | _ => cases h
      | none =>
        rw [h] at h1
        obtain ⟨a, xs, rfl, hs, t⟩ := asL_x sr r h1
        exact ⟨a, xs, rfl, .inl ⟨hs, fun p hp => q _ _ L io (Stp.alloc hp) (sr.alloc hp) (VR.newT sr hp t)⟩⟩
end DL
namespace DL
open PySem L2
def tyD (S : Sto) : Dv → Option String
  | .non => some "NoneType"
  | .bl _ => some "bool"
  | .int _ => some "int"
  | .str _ => some "str"
  | .tup _ => some "tuple"
  | .lst _ => some "list"
  | .rol _ => some "list"
  | .dic _ => some "dict"
  | .hdl k => match S[k]? with
    | some (.lst _) => some "list"
    | some (.dct _) => some "dict"
    | _ => none
  | _ => none
def tysOf : List Dv → Option (List String)
  | [] => some []
  | .ty c :: r => (tysOf r).map fun l => c :: l
  | _ => none
def kitS (t : String) : List String → Option Bool
  | [] => some false
  | c :: r => match kitB t c with
    | some true => some true
    | some false => kitS t r
    | none => none
def kitD (t : String) (cs : List Dv) : Option Bool := (tysOf cs).bind fun l => kitS t l
def isiD (S : Sto) : List Dv → Option (Dv × Sto)
  | [d, .ty c] => (tyD S d).bind fun t => (kitB t c).map fun b => (.bl b, S)
  | [d, .tup cs] => (tyD S d).bind fun t => (kitD t cs).map fun b => (.bl b, S)
  | _ => none
section
variable {K : PySem.W.Frag} {L : Addr → Prop} {io : List Addr} {H : Hp} {S : Sto}
theorem sqT_K {a : Addr} {xs : List V} (h : ∀ H', SqT K H' a xs) : ∃ o, K.lookup a = some o ∧ o.cls = .type "tuple" := by
  rcases h (fun _ => none) with (h | ⟨o, h⟩) | ⟨o, its, n, h1, h2, _⟩
  · cases h
  · cases h
  · exact ⟨o, h1, h2⟩
theorem sqL_K {a : Addr} {xs : List V} (h : ∀ H', SqL K H' a xs) : ∃ o, K.lookup a = some o ∧ o.cls = .type "list" := by
  rcases h (fun _ => none) with (h | ⟨o, h⟩) | ⟨o, its, n, h1, h2, _⟩
  · cases h
  · cases h
  · exact ⟨o, h1, h2⟩
theorem tyD_ok0 (s : SR K L io H S) {v : V} {d : Dv} {t : String} (r : VR K L io H v d) (e : tyD S d = some t) : TyX K H v (.type t) := by
  cases r with
  | non => cases e; exact .base .non
  | bl b => cases e; exact .base (.bl b)
  | int b => cases e; exact .base (.int b)
  | str b => cases e; exact .base (.str b)
  | tup n h _ => cases e; exact .base (.tup h)
  | tupK h _ => cases e; obtain ⟨o, h1, h2⟩ := sqT_K h.1; exact .kTuple h1 h2
  | lst n h _ => cases e; exact .base (.lst h)
  | rol n h _ =>
    cases e
    rcases h with h | ⟨o, h⟩
    · exact .base (.lst h)
    · exact .base (.frz h)
  | rolK h _ => cases e; obtain ⟨o, h1, h2⟩ := sqL_K h; exact .kList h1 h2
  | dic n h _ =>
    cases e
    rcases h with h | ⟨o, h⟩
    · exact .base (.dK h)
    · exact .fDict h
  | hdl hk =>
    rename_i a k
    cases q : S[k]? with
    | none => simp [tyD, q] at e
    | some o =>
      cases o with
      | lst l => simp [tyD, q] at e; subst e; obtain ⟨xs, h, _⟩ := s.obj k _ _ hk q; exact .base (.lst h)
      | dct l => simp [tyD, q] at e; subst e; obtain ⟨xs, h, _⟩ := s.obj k _ _ hk q; exact .base (.dK h)
      | ins c fs => simp [tyD, q] at e
      | ext => simp [tyD, q] at e
  | _ => cases e
theorem tyD_ok (s : SR K L io H S) {v : V} {d : Dv} {t : String} (r : VX K L io H v d) (e : tyD S d = some t) : TyX K H v (.type t) := by
  rcases r with r | ⟨p, o, rfl, rfl, np, ob⟩
  · exact tyD_ok0 s r e
  · cases o with
    | lst l => cases e; obtain ⟨xs, h, _⟩ := ob; exact .base (.lst h)
    | dct l => cases e; obtain ⟨xs, h, _⟩ := ob; exact .base (.dK h)
    | ins c fs => cases e
    | ext => cases e
theorem tysOf_ok : ∀ {cs : List Dv} {vs : List V} {l : List String}, VRs K L io H vs cs → tysOf cs = some l → Paired ClsV vs (l.map Value.type)
  | _, _, _, .nil, e => by cases e; exact .nil
  | _, _, l, .cons r rs, e => by
    cases r with
    | ty c =>
      simp only [tysOf] at e
      obtain ⟨l', h1, rfl⟩ := map_ok e
      exact .cons (.ty c) (tysOf_ok rs h1)
    | _ => cases e
theorem kitS_ok {t : String} : ∀ {l : List String} {b : Bool}, kitS t l = some b → PySem.W.kitAny K (.type t) (l.map Value.type) = some b
  | [], _, e => e
  | c :: l, b, e => by
    simp only [kitS] at e
    cases q : kitB t c with
    | none => rw [q] at e; cases e
    | some z =>
      rw [q] at e
      have hz := kit_ty (K := K) q
      simp only [List.map_cons, PySem.W.kitAny, hz]
      cases z with
      | true => exact e
      | false => exact kitS_ok e
end
def rIsiA (K : PySem.W.Frag) : List V → Hp → VK → Prop := fun xs H Q => rIsi K xs H Q ∨ rIsiT K xs H Q ∨ rIsiK K xs H Q
theorem CallR.or {X : Cx} {f : Value} {r r' : List V → Hp → VK → Prop} (h : CallR X f r) (h' : CallR X f r') : CallR X f (fun x H Q => r x H Q ∨ r' x H Q) := by
  intro pins s g H xs us Q I rv q
  rcases q with q | q
  · exact h pins s g H xs us Q I rv q
  · exact h' pins s g H xs us Q I rv q
theorem cas_isi {K : PySem.W.Frag} : CaS K (rIsiA K) isiD := by
  intro L io H S xs l d S' Q sr rv e q
  cases rv with
  | nil => cases e
  | cons r t =>
    cases t with
    | nil => cases e
    | cons r2 t2 =>
      cases t2 with
      | cons r3 t3 => rename_i d2 _ _ _ _; cases d2 <;> cases e
      | nil =>
        rename_i v dd w cc
        have r2x := r2
        clear r2
        have hcv : isV cc = false := by
          cases cc <;> first | rfl | (simp [isiD] at e)
        cases r2x.vr hcv with
        | ty c =>
          simp only [isiD] at e
          cases h : tyD S dd with
          | none => rw [h] at e; cases e
          | some ty =>
            rw [h] at e
            obtain ⟨b, h1, h2⟩ := map_ok e
            cases h2
            exact .inl ⟨v, .ty c, .type ty, .type c, b, rfl, .ty c, tyD_ok sr r h, kit_ty h1, q _ H L io (Stp.refl ..) sr (.bl _)⟩
        | tup n ht ts =>
          simp only [isiD] at e
          cases h : tyD S dd with
          | none => rw [h] at e; cases e
          | some ty =>
            rw [h] at e
            obtain ⟨b, h1, h2⟩ := map_ok e
            cases h2
            unfold kitD at h1
            rename_i ds
            cases h3 : tysOf ds with
            | none => rw [h3] at h1; cases h1
            | some l =>
              rw [h3] at h1
              exact .inr (.inl ⟨v, _, _, .type ty, _, b, rfl, ht, tysOf_ok ts h3, tyD_ok sr r h, kitS_ok h1, q _ H L io (Stp.refl ..) sr (.bl _)⟩)
        | tupK ht ts =>
          simp only [isiD] at e
          cases h : tyD S dd with
          | none => rw [h] at e; cases e
          | some ty =>
            rw [h] at e
            obtain ⟨b, h1, h2⟩ := map_ok e
            cases h2
            unfold kitD at h1
            rename_i a xs ds
            cases h3 : tysOf ds with
            | none => rw [h3] at h1; cases h1
            | some l =>
              rw [h3] at h1
              rcases ht.1 (fun _ => none) with (ht | ⟨o, ht⟩) | ⟨⟨oc, od, dt, sl⟩, its, n, e1, e2, e3, _, rv⟩
              · cases ht
              · cases ht
              · simp only at e2 e3
                subst e2 e3
                have ei := ClsV.all (tysOf_ok ts h3) rv
                exact .inr (.inr ⟨v, a, od, its.toList, n, sl, .type ty, b, rfl, by simpa using e1, tyD_ok sr r h, by rw [ei]; exact kitS_ok h1, q _ H L io (Stp.refl ..) sr (.bl _)⟩)
        | _ => cases e
section
variable {K : PySem.W.Frag} {L : Addr → Prop} {io : List Addr} {H : Hp} {S : Sto}
theorem VRs.atI {vs : List V} {l : List Dv} {i : Int} {d : Dv} (r : VRs K L io H vs l) (h : L2.atI l i = some d) : ∃ v, L2.atI vs i = some v ∧ VR K L io H v d := by
  unfold L2.atI at h ⊢
  rw [r.len]
  cases q : ixN l.length i with
  | none => rw [q] at h; cases h
  | some j =>
    rw [q] at h
    obtain ⟨v, h1, h2⟩ := r.get (i := j) h
    exact ⟨v, h1, h2⟩
def cutG {α : Type} (xs : List α) (lo hi : Option Int) : List α := (xs.drop (HT.sIx xs.length 0 lo)).take (HT.sIx xs.length xs.length hi - HT.sIx xs.length 0 lo)
theorem VRs.cut {vs : List V} {l : List Dv} {lo hi : Option Int} (r : VRs K L io H vs l) : VRs K L io H (cutV vs lo hi) (cutG l lo hi) := by
  unfold cutV cutG
  rw [r.len]
  exact (r.drop _).take _
end
def ixD (S : Sto) (d i : Dv) : Option (Dv × Sto) := match i with
  | .int i => (match d with
    | .str z => if z.length ≤ sizeLine then (atI z.cps.toList i).map fun c => (.str ⟨#[c]⟩, S) else none
    | _ => (asQ S d).bind fun l => (atI l i).map fun x => (x, S))
  | _ => none
theorem ops_ix {K : PySem.W.Frag} : OpS K (rIx K) ixD := by
  intro L io H S x y a b d S' Q sr ra rb e q
  cases b with
  | int i =>
    cases rb.vr rfl
    have seq : ((asQ S a).bind fun l => (atI l i).map fun x => (x, S)) = some (d, S') → rIx K x (.int i) H Q := by
      intro e
      cases h : asT a with
      | some l =>
        have h' : asQ S a = some l := by unfold asQ; rw [h]
        rw [h'] at e
        obtain ⟨z, h1, h2⟩ := map_ok e
        cases h2
        obtain ⟨p, xs, rfl, hs, t⟩ := asT_x ra h
        obtain ⟨v, h3, h4⟩ := t.atI h1
        exact .inr (.inl ⟨p, xs, i, v, rfl, rfl, hs, h3, q _ H L io (Stp.refl ..) sr h4⟩)
      | none =>
        have h' : asQ S a = asL S a := by unfold asQ; rw [h]
        rw [h'] at e
        cases h5 : asL S a with
        | none => rw [h5] at e; cases e
        | some l =>
          rw [h5] at e
          obtain ⟨z, h1, h2⟩ := map_ok e
          cases h2
          obtain ⟨p, xs, rfl, hs, t⟩ := asL_x sr ra h5
          obtain ⟨v, h3, h4⟩ := t.atI h1
          exact .inl ⟨p, xs, i, v, rfl, rfl, hs, h3, q _ H L io (Stp.refl ..) sr h4⟩
    cases a with
    | str z =>
      simp only [ixD] at e
      split at e
      · rename_i hz
        obtain ⟨c, h1, h2⟩ := map_ok e
        cases h2; cases ra.vr rfl
        exact .inr (.inr ⟨z, i, c, rfl, rfl, hz, h1, q _ H L io (Stp.refl ..) sr (.str _)⟩)
      · cases e
    | _ => exact seq e
  | _ => cases e
theorem qe_ix {X : Cx} {W : WX} {pos : Pos} {a b : Expr} {f1 f2 : DE} (ha : QX X W a f1) (hb : QX X W b f2) (hs : PlainIx b := by exact fun _ _ => rfl) : QE X W (.Subscript a b pos) (eBin ixD f1 f2) := pe_imp (pe_ix ix_seq ha hb hs) fun _ _ _ q => rd_bin ops_ix q
/-- a[lo:hi] -/
abbrev DO := Env → Sto → Res (Option Int)
def rdo (K : PySem.W.Frag) (W : WX) (f : DO) : TO := Rdg K W (fun _ _ _ (v : Option Int) d => v = d) f
abbrev QO (X : Cx) (W : WX) (e : Option Expr) (f : DO) : Prop := PO X e (rdo X.K W f)
theorem po_imp {X : Cx} {e : Option Expr} {t t' : TO} (h : PO X e t) (i : ∀ g H Q, t' g H Q → t g H Q) : PO X e t' := ⟨fun pins s g H Q I q => h.run pins s g H Q I (i g H Q q)⟩
def oNone : DO := fun _ S => .ok none S
def oInt : Dv → Sto → Res (Option Int)
  | .int i, S => .ok (some i) S
  | _, _ => .no
def oSome (f : DE) : DO := fun e S => bnd (f e S) oInt
def cutD (S : Sto) (d : Dv) (lo hi : Option Int) : Option (Dv × Sto) := match d with
  | .str z => if z.length ≤ sizeLine then some (.str (cutS z lo hi), S) else none
  | .tup l => some (.tup (cutG l lo hi), S)
  | _ => (asL S d).map fun l => (.lst (cutG l lo hi), S)
def eCut (f : DE) (lo hi : DO) : DE := fun e S => bnd (f e S) fun d S1 => bnd (lo e S1) fun l S2 => bnd (hi e S2) fun h S3 => ofO (cutD S3 d l h)
section
variable {X : Cx} {W : WX} {pos p2 : Pos} {a : Expr} {lo hi : Option Expr} {f : DE} {fl fh : DO}
theorem qo_none : QO X W none oNone := po_imp po_none fun g H Q q => by
  obtain ⟨L0, io0, H0, L, io, e, S, fr, q⟩ := q
  exact q.ok1 fr.st rfl
theorem qo_some (h : QE X W a f) : QO X W (some a) (oSome f) := po_imp (po_some h) fun g H Q q => by
  refine Rdg.bind (R := VR X.K) (k := fun _ => oInt) q fun L0 io0 H0 L io H1 e S a v fr ra q => ?_
  cases ra with
  | int b => exact ⟨_, rfl, q.ok1 fr.st rfl⟩
  | _ => exact q.elim
theorem cutG_whole {α : Type} {l : List α} {lo hi : Option Int} (h : HT.sIx l.length 0 lo = 0 ∧ HT.sIx l.length l.length hi = l.length) : cutG l lo hi = l := by
  unfold cutG
  rw [h.1, h.2]
  simp
theorem qe_cut (he : QX X W a f) (hl : QO X W lo fl) (hh : QO X W hi fh) : QE X W (.Subscript a (.Slice lo hi none p2) pos) (eCut f fl fh) := pe_imp (pe_slice (sl_list.or (sl_tupA.or sl_str)) he hl hh) fun g H Q q => by
  refine Rdg.bind (R := VX X.K) (k := fun e d S1 => bnd (fl e S1) fun l S2 => bnd (fh e S2) fun h S3 => ofO (cutD S3 d l h)) q fun L0 io0 H0 L io H1 e S d v fr rv q => ?_
  refine Fin.bind (R := fun _ _ _ (v : Option Int) d => v = d) (k := fun l S2 => bnd (fh e S2) fun h S3 => ofO (cutD S3 d l h)) fr q fun L2 io2 H2 S2 l w s2 fr2 rw2 q => ?_
  subst rw2
  refine Fin.bind (R := fun _ _ _ (v : Option Int) d => v = d) (k := fun h S3 => ofO (cutD S3 d w h)) fr2 q fun L3 io3 H3 S3 h w2 s3 fr3 rw3 q => ?_
  subst rw3
  have r := (rv.step s2 fr.st.sub).step s3 fr2.st.sub
  obtain ⟨d', S', h1, h2⟩ := q.opt
  have lst : (asL S3 d).map (fun l => (Dv.lst (cutG l w w2), S3)) = some (d', S') → rSlL X.K v w w2 H3 Q := by
    intro e
    obtain ⟨l, h3, h4⟩ := map_ok e
    cases h4
    obtain ⟨p, xs, rfl, hs, t⟩ := asL_x fr3.st r h3
    exact ⟨p, xs, rfl, hs, fun p hp => h2 _ _ L3 io3 (Stp.alloc hp) (fr3.st.alloc hp) (VR.newL fr3.st hp t.cut)⟩
  cases d with
  | str z =>
    simp only [cutD] at h1
    split at h1
    · rename_i hz
      cases h1; cases r.vr rfl
      exact .inr (.inr ⟨z, rfl, hz, h2 _ H3 L3 io3 (Stp.refl ..) fr3.st (.str _)⟩)
    · cases h1
  | tup l =>
    cases h1
    obtain ⟨p, xs, rfl, hs, t⟩ := (r.vr rfl).tupS
    refine .inr (.inl ⟨p, xs, rfl, hs, fun hw => ?_, fun hw p hp => ?_⟩)
    · rw [t.len] at hw
      rw [cutG_whole hw] at h2
      exact h2 _ H3 L3 io3 (Stp.refl ..) fr3.st (r.vr rfl)
    · exact h2 _ _ L3 io3 (Stp.alloc hp) (fr3.st.alloc hp) (VR.newT fr3.st hp t.cut)
  | _ => exact .inl (lst h1)
end
structure RoomG (k : Nat) (A : Around) : Prop where
  r : Room k A
  g : A.guards = some []
theorem RoomG.mono {j k : Nat} {A : Around} (h : RoomG k A) (hj : j ≤ k) : RoomG j A := ⟨h.r.mono hj, h.g⟩
theorem RoomG.deeper {k : Nat} {A : Around} (h : RoomG (k + 1) A) (v : PySem.Env) : RoomG k (A.deeper v) := ⟨h.r.deeper v, h.g⟩
theorem RoomG.in1 {k : Nat} {A : Around} (h : RoomG (k + 1) A) : RoomG k A.in1 := ⟨h.r.in1, h.g⟩
theorem RoomG.low {k : Nat} {A : Around} (h : RoomG (k + 1) A) : RoomG k A := h.mono (Nat.le_succ k)
/-- what a def promises: as FnOk, at calls without a guard; what it raises lies as L2.CX says -/
structure FnG (P : Program) (w : World) (K : PySem.W.Frag) (mg : Str → Option Value) (base : Heap) (k : Nat) (f : Addr) (fd : FuncData) (ps : List Str) (sp : Sp) : Prop where
  len : ∀ vs H Q E, sp vs H Q E → vs.length = ps.length
  run : ∀ (A : Around) (up : List PySem.Env) (s : Shared) (H : Hp) (args : Args) (us : List Value) (vs : List V) (Q : VK) (E : XK), RoomG k A → Env0 P w K mg base A up s H → BindsTo s fd args (ps.zip us) → Vals vs us → sp vs H Q E →
    codeAny (model P w) A (.call (.ref f) args) (CR (L2.CX P w) up P w H s Q E) s
theorem FnG.mono {P : Program} {w : World} {K : PySem.W.Frag} {mg : Str → Option Value} {base : Heap} {j k : Nat} {f : Addr} {fd : FuncData} {ps : List Str} {sp : Sp} (F : FnG P w K mg base j f fd ps sp) (h : j ≤ k) : FnG P w K mg base k f fd ps sp :=
  ⟨F.len, fun A up s H args us vs Q E hr => F.run A up s H args us vs Q E (hr.mono h)⟩
/-- a promise that nobody can ask -/
theorem FnG.never {P : Program} {w : World} {K : PySem.W.Frag} {mg : Str → Option Value} {base : Heap} {k : Nat} {f : Addr} {fd : FuncData} {ps : List Str} {sp : Sp} (h : ∀ vs H Q E, ¬ sp vs H Q E) : FnG P w K mg base k f fd ps sp :=
  ⟨fun vs H Q E z => (h vs H Q E z).elim, fun _ _ _ H _ _ vs Q E _ _ _ _ z => (h vs H Q E z).elim⟩
theorem takesW0 {X : Cx} : Takes X (fun _ _ _ _ => False) := fun _ _ ⟨_, _, _, _, _, _, _, _, _, _, _, _, _, _, _, _, z⟩ => z.elim
section
variable {X : Cx} {W : WX} {k : Nat} {f : Addr} {fd : FuncData} {ps : List Str} {sp : Sp} {dvs : List V} {ds : List Value}
/-- the callee of any rule runs -/
theorem run_g {pins : List (Addr × Obj)} {g : St} {H : Hp} {s : Shared} {Q : VK} {us : List Value} {vs : List V} (F : FnG X.prog X.w X.K X.mg X.base k f fd ps sp) (hr : RoomG k X.A) (hb : Binds X.K fd ps ds) (hd : Vals dvs ds) (tk : Takes X W)
    (I : Inv X pins g H s) (r : Vals vs us) (h : sp (vs ++ dvs) H Q (fun c d H' => W c d g H')) : wpAny (model X.prog X.w) X.A (call (.ref f) us) (EP X pins g Q) X.xe s := by
  have r2 := r.append hd
  have hl : (us ++ ds).length = ps.length := by
    rw [← r2.length]
    exact F.len _ _ _ _ h
  refine wpAny_call (codeAny_mono (F.run X.A X.stack s H ⟨us, []⟩ _ _ Q _ hr I.env0 (hb s us I.kIn hl) r2 h) fun rr s' z => ?_)
  match rr, z with
  | .error e, z => exact tk e s' (XE.of_call I (fun _ _ _ q => q) z)
  | .ok (.ret u), z => exact I.after z
  | .ok .next, z => exact z.elim
  | .ok .brk, z => exact z.elim
  | .ok .cont, z => exact z.elim
end
def Lx (L : Addr → Prop) (io : List Addr) : Addr → Prop := fun a => L a ∨ a ∈ io
abbrev DF := Sto → List Dv → Res Dv
/-- a def's promise: called with such data in such a store it gives g's answer -/
def spD (K : PySem.W.Frag) (g : DF) : Sp := fun vs H Q E => ∃ (L : Addr → Prop) (io : List Addr) (S : Sto) (l : List Dv), SR K L io H S ∧ VRs K L io H vs l ∧ match g S l with
  | .ok d S' => ∀ (v : V) (H' : Hp) (io' : List Addr), Stp L io H (Lx L io') io' H' → SR K (Lx L io') io' H' S' → VR K (Lx L io') io' H' v d → Q v H'
  | .ex c fs S' => ∀ (x : Option Addr) (H' : Hp) (io' : List Addr), Stp L io H (Lx L io') io' H' → SR K (Lx L io') io' H' S' → ExR K (Lx L io') io' H' x fs → E (.ref (He.ga K c)) x H'
  | .no => False
/-- the answer of none -/
def gNo : DF := fun _ _ => .no
theorem spD_no {K : PySem.W.Frag} : ∀ vs H Q E, ¬ spD K gNo vs H Q E := fun _ _ _ _ ⟨_, _, _, _, _, _, z⟩ => z
/-- a def's promise from what is wished behind it -/
theorem spD_fin {K : PySem.W.Frag} {W : WX} {g : DF} {st : St} {L : Addr → Prop} {io : List Addr} {H : Hp} {S : Sto} {vs : List V} {l : List Dv} {Q : VK} (sr : SR K L io H S) (r : VRs K L io H vs l) (q : Fin K W (VR K) st L io H Q (g S l)) : spD K g vs H Q (fun c d H' => W c d st H') := by
  refine ⟨L, io, S, l, sr, r, ?_⟩
  cases h : g S l with
  | ok d S' => rw [h] at q; exact fun v H' io' s sr r => q v H' _ io' s sr r
  | ex c fs S' => rw [h] at q; exact fun v H' io' s sr r => q v H' _ io' s sr r
  | no => rw [h] at q; exact q
/-- the def that the module's name x stands for answers as g; dl: the data of the defaults that a call without them takes -/
def FD (P : Program) (w : World) (K : PySem.W.Frag) (mg : Str → Option Value) (base : Heap) (k : Nat) (x : Str) (g : DF) : Prop :=
  ∃ (f : Addr) (fd : FuncData) (ps : List Str), FnG P w K mg base k f fd ps (spD K g) ∧ mg x = some (.ref f) ∧ f = He.ga K x ∧ PySem.W.keepIn K (.ref f) = true ∧ Binds K fd ps []
def eCall (g : DF) (fa : DA) : DE := fun e S => bnd (fa e S) fun l S1 => g S1 l
section
variable {X : Cx} {W : WX} {k i : Nat} {x : Str} {g : DF} {p pos : Pos} {e : Expr} {es : List Expr} {fa : DA}
theorem qe_call (F : FD X.prog X.w X.K X.mg X.base k x g) (hr : RoomG (k + 1) X.A) (tk : Takes X W) (ha : QA X W (e :: es) fa) (hg : Gl X x := by rfl) (hdb : (x == ("__debug__" : Str)) = false := by decide) (he : starEach (e :: es) X.env = (false, eval e X.env) :: starEach es X.env := by rfl) (hpl : (backTo pos (starEach es X.env)).any (·.1) = false := by rfl) :
    QE X W (.Call (.Name x p) (e :: es) [] pos) (eCall g fa) := by
  obtain ⟨f, fd, ps, F, hm, _, hk, hb⟩ := F
  refine ⟨fun pins s st H Q I q => wpAny_Call_Name_kw (ld_glob I hg hm ?_ hdb)⟩
  refine PySem.W.callWith_K (h₀ := X.base) I.ok.mod.kin hk (thn (ha.run pos pins s st H (fun vs H1 => spD X.K g vs H1 Q fun c d H' => W c d st H') I ?_) fun us s1 ⟨vs, H1, I1, r, q⟩ => ⟨I1.kIn, run_g F hr.low hb .nil tk I1 r (by rw [List.append_nil]; exact q)⟩) he hpl
  exact Rdg.bind (R := VRs X.K) (k := fun _ l S1 => g S1 l) q fun L0 io0 H0 L io H1 e S l v fr rv q => spD_fin fr.st rv q
/-- fits(..), fits a name of this def that stands for a def of the module; t: what the defs answer -/
def eCallL (t : Str → Option DF) (i : Nat) (fa : DA) : DE := fun e S => match e[i]? with
  | some (.va (.glo x)) => match t x with
    | some g => bnd (fa e S) fun l S1 => g S1 l
    | none => .no
  | _ => .no
theorem qe_callL {t : Str → Option DF} (i : Nat) (F : ∀ y g, t y = some g → FD X.prog X.w X.K X.mg X.base k y g) (hr : RoomG (k + 1) X.A) (tk : Takes X W) (ha : QA X W (e :: es) fa) (hN : X.N[i]? = some x := by rfl) (hv : Vis X.env.scope x := by first | exact Or.inl rfl | exact Or.inr (Or.inl rfl) | exact Or.inr (Or.inr rfl)) (hdb : (x == ("__debug__" : Str)) = false := by decide) (hcd : (x == ("__classdict__" : Str)) = false := by decide)
    (he : starEach (e :: es) X.env = (false, eval e X.env) :: starEach es X.env := by rfl) (hpl : (backTo pos (starEach es X.env)).any (·.1) = false := by rfl) :
    QE X W (.Call (.Name x p) (e :: es) [] pos) (eCallL t i fa) := by
  refine ⟨fun pins s st H Q I q => ?_⟩
  obtain ⟨L0, io0, H0, L, io, ev, S, fr, q⟩ := q
  cases h1 : ev[i]? with
  | none => simp only [eCallL, h1] at q; exact q.elim
  | some sl =>
    cases sl with
    | va d =>
      cases d with
      | glo y =>
        cases h2 : t y with
        | none => simp only [eCallL, h1, h2] at q; exact q.elim
        | some g =>
          simp only [eCallL, h1, h2] at q
          obtain ⟨f, fd, ps, F, hm, hf, hk, hb⟩ := F y g h2
          obtain ⟨v, g1, g2⟩ := fr.va i _ h1
          have ev2 : v = .ref f := by cases g2; rw [hf]
          subst ev2
          refine wpAny_Call_Name_kw (thn ((pe_var (pos := p) hN hv hdb hcd).run pins s st H (fun v H1 => v = .ref f ∧ H1 = H) I ⟨.ref f, g1, rfl, rfl⟩) fun u s1 ⟨v, H1, I1, r1, q1⟩ => ?_)
          obtain ⟨rfl, rfl⟩ := q1
          cases r1
          refine PySem.W.callWith_K (h₀ := X.base) I.ok.mod.kin hk (thn (ha.run pos pins s1 st H1 (fun vs H1 => spD X.K g vs H1 Q fun c d H' => W c d st H') I1 ?_) fun us s1 ⟨vs, H1, I1, r, q⟩ => ⟨I1.kIn, run_g F hr.low hb .nil tk I1 r (by rw [List.append_nil]; exact q)⟩) he hpl
          exact Fin.bind (R := VRs X.K) (k := fun l S1 => g S1 l) fr q fun L1 io1 H1 S1 l v s1 fr1 rv q => spD_fin fr1.st rv q
      | _ => simp only [eCallL, h1] at q; exact q.elim
    | _ => simp only [eCallL, h1] at q; exact q.elim
end
end DL
namespace DL
open PySem L2
structure Stw (L : Addr → Prop) (io : List Addr) (H : Hp) (L' : Addr → Prop) (io' : List Addr) (H' : Hp) : Prop where
  pre : ∃ more, io' = io ++ more
  new : ∀ a, L' a → L a ∨ H a = none
  keep : ∀ a o, H a = some o → ¬ L a → H' a = some o
section
variable {K : PySem.W.Frag} {L L1 L2 L' : Addr → Prop} {io io1 io2 io' : List Addr} {H H1 H2 H' : Hp} {S : Sto}
theorem Stw.refl (L : Addr → Prop) (io : List Addr) (H : Hp) : Stw L io H L io H := ⟨⟨[], by simp⟩, fun _ h => .inl h, fun _ _ h _ => h⟩
theorem Stp.stw (s : Stp L io H L' io' H') (sub : ∀ x ∈ io, L x) : Stw L io H L' io' H' := ⟨s.pre, s.new, fun a o h n => s.keep a o h fun z => n (sub a z)⟩
theorem Stw.trans (a : Stw L io H L1 io1 H1) (b : Stw L1 io1 H1 L2 io2 H2) : Stw L io H L2 io2 H2 where
  pre := by
    obtain ⟨m, rfl⟩ := a.pre
    obtain ⟨m1, rfl⟩ := b.pre
    exact ⟨m ++ m1, by simp⟩
  new := fun x h => by
    rcases b.new x h with h1 | h1
    · exact a.new x h1
    · cases e : H x with
      | none => exact .inr rfl
      | some o =>
        by_cases hl : L x
        · exact .inl hl
        · rw [a.keep x o e hl] at h1; cases h1
  keep := fun x o h n => b.keep x o (a.keep x o h n) fun z => by
    rcases a.new x z with q | q
    · exact n q
    · rw [q] at h; cases h
theorem Stw.on (s : Stw L io H L' io' H') : (∀ (k : Nat) (a : Addr), io[k]? = some a → io'[k]? = some a) ∧ (∀ a o, H a = some o → ¬ L a → H' a = some o ∧ ¬ L' a) := by
  refine ⟨fun k a h => ?_, fun a o h nl => ⟨s.keep a o h nl, fun z => ?_⟩⟩
  · obtain ⟨m, rfl⟩ := s.pre
    exact io_keep h
  · rcases s.new a z with q | q
    · exact nl q
    · rw [q] at h; cases h
theorem VR.stw {v : V} {d : Dv} (h : VR K L io H v d) (s : Stw L io H L' io' H') : VR K L' io' H' v d := VR.on s.on.1 s.on.2 h
theorem VRs.stw {v : List V} {d : List Dv} (h : VRs K L io H v d) (s : Stw L io H L' io' H') : VRs K L' io' H' v d := VRs.on s.on.1 s.on.2 h
/-- a volatile thing that is no handle's is changed -/
theorem SR.mut {p : Addr} {o : HO} (s : SR K L io H S) (hp : L p) (hn : p ∉ io) : SR K L io (upd H p o) S where
  len := s.len
  nd := s.nd
  sub := s.sub
  dom := fun a ha => by
    by_cases e : a = p
    · rw [e, upd_same]; exact fun z => nomatch z
    · rw [upd_ne e]; exact s.dom a ha
  obj := fun k a ob h1 h2 => (s.obj k a ob h1 h2).mono (fun u e => by rw [upd_ne (fun z => hn (by rw [← z]; exact List.mem_of_getElem? h1))]; exact e) fun v d r => r.mut hp
theorem Stw.mut {p : Addr} {o : HO} (hp : L p) : Stw L io H L io (upd H p o) := ⟨⟨[], by simp⟩, fun _ h => .inl h, fun a u e n => by rw [upd_ne (fun z => n (by rw [z]; exact hp))]; exact e⟩
/-- a new thing, volatile from now on -/
def Ly (L : Addr → Prop) (p : Addr) : Addr → Prop := fun a => L a ∨ a = p
def Lz (L : Addr → Prop) (p : Addr) : Addr → Prop := fun a => L a ∧ a ≠ p
theorem Stp.newV {p : Addr} {o : HO} (hp : H p = none) : Stp L io H (Ly L p) io (upd H p o) :=
  ⟨⟨[], by simp⟩, fun _ h => .inl h, fun a h => h.elim .inl fun e => .inr (by rw [e]; exact hp), fun a u e _ => by rw [upd_ne (ne_of_none e hp)]; exact e, fun _ h => .inl h⟩
theorem SR.newV {p : Addr} {o : HO} (s : SR K L io H S) (hp : H p = none) : SR K (Ly L p) io (upd H p o) S where
  len := s.len
  nd := s.nd
  sub := fun a h => .inl (s.sub a h)
  dom := fun a ha => by
    by_cases e : a = p
    · rw [e, upd_same]; exact fun z => nomatch z
    · rw [upd_ne e]; exact s.dom a (ha.elim id fun z => absurd z e)
  obj := fun k a ob h1 h2 => (s.obj k a ob h1 h2).mono (fun u e => by rw [upd_ne (ne_of_none e hp)]; exact e) fun v d r => r.step (Stp.newV hp) s.sub
/-- fewer volatile things -/
theorem SR.less (s : SR K L io H S) (hl : ∀ a, L' a → L a) (sub : ∀ a ∈ io, L' a) : SR K L' io H S :=
  ⟨s.len, s.nd, sub, fun a h => s.dom a (hl a h), fun k a o h1 h2 => (s.obj k a o h1 h2).mono (fun _ e => e) fun v d r => r.less hl⟩
end
/-- a new list l stands at p (H: the heap ahead of the piece) -/
def NewL (K : PySem.W.Frag) (H : Hp) (L' : Addr → Prop) (io' : List Addr) (H' : Hp) (v : V) (l : List Dv) : Prop := ∃ p xs, v = .ref p ∧ H p = none ∧ L' p ∧ p ∉ io' ∧ H' p = some (.lst xs) ∧ VRs K L' io' H' xs l
abbrev DL := Env → Sto → Res (List Dv)
def FinF (K : PySem.W.Frag) (W : WX) (g : St) (L : Addr → Prop) (io : List Addr) (H : Hp) (Q : V → Hp → Prop) : Res (List Dv) → Prop
  | .ok d S' => ∀ (v : V) (H' : Hp) (L' : Addr → Prop) (io' : List Addr), Stp L io H L' io' H' → SR K L' io' H' S' → NewL K H L' io' H' v d → Q v H'
  | .ex c fs S' => ∀ (x : Option Addr) (H' : Hp) (L' : Addr → Prop) (io' : List Addr), Stp L io H L' io' H' → SR K L' io' H' S' → ExR K L' io' H' x fs → W (.ref (He.ga K c)) x g H'
  | .no => False
def rdF (K : PySem.W.Frag) (W : WX) (f : DL) : TE := fun g H Q => ∃ (L0 : Addr → Prop) (io0 : List Addr) (H0 : Hp) (L : Addr → Prop) (io : List Addr) (e : Env) (S : Sto), FR K L0 io0 H0 L io H g e S ∧ FinF K W g L io H Q (f e S)
abbrev QF (X : Cx) (W : WX) (e : Expr) (f : DL) : Prop := PE X e (rdF X.K W f)
def eFrz (f : DL) : DE := fun e S => bnd (f e S) fun l S' => .ok (.lst l) S'
theorem rd_frz {K : PySem.W.Frag} {W : WX} {f : DL} {g : St} {H : Hp} {Q : VK} (q : rd K W (eFrz f) g H Q) : rdF K W f g H Q := by
  obtain ⟨L0, io0, H0, L, io, e, S, fr, q⟩ := q
  refine ⟨L0, io0, H0, L, io, e, S, fr, ?_⟩
  have q : Fin K W (VR K) g L io H Q (bnd (f e S) fun l S' => .ok (.lst l) S') := q
  cases hf : f e S with
  | no => rw [hf] at q; exact q
  | ex c fs S' => rw [hf] at q; exact q
  | ok l S' =>
    rw [hf] at q
    intro v H' L' io' s sr ⟨p, xs, hv, hp, lp, np, h1, h2⟩
    subst hv
    have hl : ∀ a, Lz L' p a → L' a := fun a z => z.1
    refine q _ H' (Lz L' p) io' ⟨s.pre, s.hn, fun a z => s.new a z.1, s.keep, fun a z => ⟨s.up a z, fun e => fr.st.dom a z (by rw [e]; exact hp)⟩⟩ (sr.less hl fun a ha => ⟨sr.sub a ha, fun e => np (by rw [← e]; exact ha)⟩) (.lst (fun z => z.2 rfl) h1 (h2.less hl))
theorem qe_frz {X : Cx} {W : WX} {a : Expr} {f : DL} (h : QF X W a f) : QE X W a (eFrz f) := pe_imp h fun g H Q q => rd_frz q
section
variable {X : Cx} {W : WX} {pos : Pos} {es : List Expr} {fa : DA}
def fLst (fa : DA) : DL := fun e S => bnd (fa e S) fun l S1 => if l.length ≤ sizeLine then .ok l S1 else .no
theorem FinF.bind {α β : Type} {K : PySem.W.Frag} {R : (Addr → Prop) → List Addr → Hp → β → α → Prop} {f : Env → Sto → Res α} {k : α → Sto → Res (List Dv)} {g : St} {L0 L : Addr → Prop} {io0 io : List Addr} {H0 H : Hp} {e : Env} {S : Sto} {Q : V → Hp → Prop} {P : β → Hp → Prop}
    (fr : FR K L0 io0 H0 L io H g e S) (h : FinF K W g L io H Q (bnd (f e S) k))
    (n : ∀ (L1 : Addr → Prop) (io1 : List Addr) (H1 : Hp) (S1 : Sto) (a : α) (v : β), Stp L io H L1 io1 H1 → FR K L0 io0 H0 L1 io1 H1 g e S1 → R L1 io1 H1 v a → FinF K W g L1 io1 H1 Q (k a S1) → P v H1) : Rdg K W R f g H P := by
  refine ⟨L0, io0, H0, L, io, e, S, fr, ?_⟩
  cases hf : f e S with
  | ok a S1 =>
    rw [hf] at h
    intro v H1 L1 io1 s1 sr1 r1
    have h : FinF K W g L io H Q (k a S1) := h
    refine n L1 io1 H1 S1 a v s1 (fr.step s1 sr1) r1 ?_
    cases hk : k a S1 with
    | ok l S2 =>
      rw [hk] at h
      intro v H' L' io' s2 sr2 ⟨p, xs, e1, e2, e3⟩
      refine h v H' L' io' (s1.trans s2 fr.st.sub) sr2 ⟨p, xs, e1, ?_, e3⟩
      rcases s1.back e2 with z | z
      · exact absurd e2 (sr1.dom p (s1.up p (fr.st.sub p z)))
      · exact z
    | ex c fs S2 =>
      rw [hk] at h
      exact fun v H' L' io' s2 sr r2 => h v H' L' io' (s1.trans s2 fr.st.sub) sr r2
    | no => rw [hk] at h; exact h
  | ex c fs S1 => rw [hf] at h; exact h
  | no => rw [hf] at h; exact h
theorem FinF.new {K : PySem.W.Frag} {g : St} {L : Addr → Prop} {io : List Addr} {H : Hp} {S : Sto} {Q : V → Hp → Prop} {l : List Dv} {xs : List V} (h : FinF K W g L io H Q (.ok l S)) (sr : SR K L io H S) (r : VRs K L io H xs l) : ∀ p, H p = none → Q (.ref p) (upd H p (.lst xs)) := fun p hp =>
  h _ _ (Ly L p) io (Stp.newV hp) (sr.newV hp) ⟨p, xs, rfl, hp, .inr rfl, fun z => sr.dom p (sr.sub p z) hp, upd_same, r.step (Stp.newV hp) sr.sub⟩
theorem qf_lst (h : QA X W es fa) : QF X W (.List es pos) (fLst fa) := pe_imp (pe_lst h) fun g H Q q => by
  obtain ⟨L0, io0, H0, L, io, e, S, fr, q⟩ := q
  refine FinF.bind (R := VRs X.K) (k := fun l S1 => if l.length ≤ sizeLine then .ok l S1 else .no) fr q fun L1 io1 H1 S1 l vs s1 fr1 r1 q => ?_
  split at q
  · rename_i hl
    exact ⟨by rw [r1.len]; exact hl, q.new fr1.st r1⟩
  · exact q.elim
end
end DL
namespace DL
open PySem L2
section
variable {K : PySem.W.Frag} {L0 L : Addr → Prop} {io0 io : List Addr} {H0 H : Hp} {g : St} {e : Env} {S : Sto} {i : Nat}
theorem set_get {α : Type} {l : List α} {i j : Nat} {a b : α} (h : (l.set i a)[j]? = some b) : (j = i ∧ b = a ∧ i < l.length) ∨ (j ≠ i ∧ l[j]? = some b) := by
  rw [List.getElem?_set] at h
  by_cases e : i = j
  · rw [if_pos e] at h
    split at h
    · cases h; exact .inl ⟨e.symm, rfl, by omega⟩
    · cases h
  · rw [if_neg e] at h
    exact .inr ⟨fun z => e z.symm, h⟩
theorem set_ne {α : Type} {l : List α} {i j : Nat} {a : α} (h : j ≠ i) : (l.set i a)[j]? = l[j]? := by
  rw [List.getElem?_set, if_neg (fun z => h z.symm)]
theorem set_at {α : Type} {l : List α} {i : Nat} {a : α} (h : i < l.length) : (l.set i a)[i]? = some a := by
  rw [List.getElem?_set, if_pos rfl, if_pos h]
/-- a slot gets another content, of which the frame's facts hold -/
theorem FR.setS (f : FR K L0 io0 H0 L io H g e S) (i : Nat) {x : Option V} {s : Sl}
    (hva : ∀ d, s = .va d → ∃ v, x = some v ∧ VR K L io H v d)
    (how : ∀ o, s = .own o → ∃ p, x = some (.ref p) ∧ L p ∧ p ∉ io ∧ H0 p = none ∧ ObR K L io H p o)
    (hinj : ∀ p, (∀ d, s ≠ .va d) → s ≠ .no → x = some (.ref p) → ∀ j, j ≠ i → (∀ d, e[j]? ≠ some (.va d)) → e[j]? ≠ some .no → g[j]? ≠ some (some (.ref p))) :
    FR K L0 io0 H0 L io H (g.set i x) (e.set i s) S where
  st := f.st
  len := by rw [List.length_set, List.length_set]; exact f.len
  va := fun j d h => by
    rcases set_get h with ⟨rfl, h1, h2⟩ | ⟨h1, h2⟩
    · obtain ⟨v, rfl, r⟩ := hva d h1.symm
      exact ⟨v, set_at (by rw [f.len]; exact h2), r⟩
    · obtain ⟨v, r1, r2⟩ := f.va j d h2
      exact ⟨v, by rw [set_ne h1]; exact r1, r2⟩
  own := fun j o h => by
    rcases set_get h with ⟨rfl, h1, h2⟩ | ⟨h1, h2⟩
    · obtain ⟨p, rfl, r⟩ := how o h1.symm
      exact ⟨p, set_at (by rw [f.len]; exact h2), r⟩
    · obtain ⟨p, r1, r2⟩ := f.own j o h2
      exact ⟨p, by rw [set_ne h1]; exact r1, r2⟩
  inj := fun j k p hjk v1 v2 n1 n2 h1 h2 => by
    have lg : ∀ {j : Nat} {z : Option V}, (g.set i x)[j]? = some z → j < e.length := fun {j z} h => by
      have := (List.getElem?_eq_some_iff.mp h).1
      rw [List.length_set, f.len] at this
      exact this
    by_cases ej : j = i
    · subst ej
      have ek : k ≠ j := fun z => hjk z.symm
      have hl := lg h1
      rw [set_at hl] at v1 n1
      rw [set_ne ek] at v2 n2 h2
      rw [set_at (by rw [f.len]; exact hl)] at h1
      exact hinj p (fun d z => v1 d (by rw [z])) (fun z => n1 (by rw [z])) (Option.some.inj h1) k ek v2 n2 h2
    · by_cases ek : k = i
      · subst ek
        have hl := lg h2
        rw [set_at hl] at v2 n2
        rw [set_ne ej] at v1 n1 h1
        rw [set_at (by rw [f.len]; exact hl)] at h2
        exact hinj p (fun d z => v2 d (by rw [z])) (fun z => n2 (by rw [z])) (Option.some.inj h2) j ej v1 n1 h1
      · rw [set_ne ej] at v1 n1 h1
        rw [set_ne ek] at v2 n2 h2
        exact f.inj j k p hjk v1 v2 n1 n2 h1 h2
  en := f.en
  sub0 := f.sub0
  dom0 := f.dom0
theorem FR.setV (f : FR K L0 io0 H0 L io H g e S) (i : Nat) {v : V} {d : Dv} (r : VR K L io H v d) : FR K L0 io0 H0 L io H (g.set i (some v)) (e.set i (.va d)) S :=
  f.setS i (fun d' h => by cases h; exact ⟨v, rfl, r⟩) (fun l h => by cases h) (fun p h => absurd rfl (h d))
theorem FR.setN (f : FR K L0 io0 H0 L io H g e S) (i : Nat) (x : Option V) : FR K L0 io0 H0 L io H (g.set i x) (e.set i .no) S :=
  f.setS i (fun d' h => by cases h) (fun l h => by cases h) (fun p _ h => absurd rfl h)
/-- a volatile thing that no slot of its own holds is changed -/
theorem FR.mutD (f : FR K L0 io0 H0 L io H g e S) {p : Addr} {o : HO} (lp : L p) (np : p ∉ io) (h0 : H0 p = none)
    (hne : ∀ (i : Nat) (q : Addr), (∀ d, e[i]? ≠ some (.va d)) → e[i]? ≠ some .no → e[i]? ≠ none → g[i]? = some (some (.ref q)) → q ≠ p) : FR K L0 io0 H0 L io (upd H p o) g e S where
  st := f.st.mut lp np
  len := f.len
  va := fun i d h => by
    obtain ⟨v, h1, h2⟩ := f.va i d h
    exact ⟨v, h1, h2.mut lp⟩
  own := fun i o h => by
    obtain ⟨q, h1, h2, h3, h4, h5⟩ := f.own i o h
    have : q ≠ p := hne i q (by rw [h]; intro d z; cases z) (by rw [h]; intro z; cases z) (by rw [h]; intro z; cases z) h1
    exact ⟨q, h1, h2, h3, h4, ObR.mono (o := o) h5 (fun u h => by rw [upd_ne this]; exact h) fun v d r => r.mut lp⟩
  inj := f.inj
  en := ⟨f.en.pre, f.en.hn, f.en.new, fun a u h n => by rw [upd_ne (ne_of_none h h0)]; exact f.en.keep a u h n, f.en.up⟩
  sub0 := f.sub0
  dom0 := f.dom0
/-- what a slot of its own holds stands in the heap -/
theorem FR.ownAt (f : FR K L0 io0 H0 L io H g e S) {i : Nat} {q : Addr} (h1 : ∀ d, e[i]? ≠ some (.va d)) (h2 : e[i]? ≠ some .no) (h3 : e[i]? ≠ none) (hg : g[i]? = some (some (.ref q))) : ∃ o, H q = some o ∧ L q := by
  cases h : e[i]? with
  | none => exact absurd h h3
  | some s =>
    cases s with
    | no => exact absurd h h2
    | va d => exact absurd h (h1 d)
    | own o =>
      obtain ⟨p, e1, e2, _, _, e3⟩ := f.own i o h
      rw [hg] at e1
      cases e1
      obtain ⟨u, e4⟩ := ObR.has (o := o) e3
      exact ⟨_, e4, e2⟩
theorem FR.fresh0 (f : FR K L0 io0 H0 L io H g e S) {p : Addr} (h : H p = none) : H0 p = none := by
  rcases f.en.back h with z | z
  · exact absurd h (f.st.dom p (f.en.up p (f.sub0 p z)))
  · exact z
def wipeE (e : Env) : List Nat → Env
  | [] => e
  | v :: vs => (wipeE e vs).set v .no
theorem FR.wipe (f : FR K L0 io0 H0 L io H g e S) : ∀ vs : List Nat, FR K L0 io0 H0 L io H (L2.wipe g vs) (wipeE e vs) S
  | [] => f
  | v :: vs => (FR.wipe f vs).setN v none
end
theorem wipe_get (g : St) : ∀ (vs : List Nat) (k : Nat), (L2.wipe g vs)[k]? = if k ∈ vs then (if k < g.length then some none else none) else g[k]?
  | [], k => by simp [L2.wipe]
  | v :: vs, k => by
    unfold L2.wipe
    rw [List.getElem?_set, L2.wipe_length, wipe_get g vs k]
    by_cases e : v = k
    · subst e; simp
    · rw [if_neg e]
      have : (k ∈ v :: vs) ↔ k ∈ vs := by simp [Ne.symm (a := v) (b := k) e]
      simp only [this]
theorem wipe_ext {g g' : St} {vs : List Nat} (hl : g'.length = g.length) (h : ∀ k, k ∉ vs → g'[k]? = g[k]?) : L2.wipe g' vs = L2.wipe g vs := by
  apply List.ext_getElem?
  intro k
  rw [wipe_get, wipe_get, hl]
  by_cases e : k ∈ vs
  · rw [if_pos e, if_pos e]
  · rw [if_neg e, if_neg e, h k e]
abbrev DG := Dv → Env → Option Env
def TGok (K : PySem.W.Frag) (t : TG) (gd : DG) (vs : List Nat) : Prop := ∀ (L0 : Addr → Prop) (io0 : List Addr) (H0 : Hp) (L : Addr → Prop) (io : List Addr) (H : Hp) (g : St) (e : Env) (S : Sto) (v : V) (d : Dv) (e' : Env) (Q : St → Hp → Prop),
  FR K L0 io0 H0 L io H g e S → VR K L io H v d → gd d e = some e' → (∀ g', FR K L0 io0 H0 L io H g' e' S → g'.length = g.length → (∀ k, k ∉ vs → g'[k]? = g[k]?) → Q g' H) → t v g H Q
def tgR (K : PySem.W.Frag) (gd : DG) (vs : List Nat) : TG := fun v g H Q => ∃ (L0 : Addr → Prop) (io0 : List Addr) (H0 : Hp) (L : Addr → Prop) (io : List Addr) (e : Env) (S : Sto) (d : Dv) (e' : Env), FR K L0 io0 H0 L io H g e S ∧ VR K L io H v d ∧ gd d e = some e' ∧
  ∀ g', FR K L0 io0 H0 L io H g' e' S → g'.length = g.length → (∀ k, k ∉ vs → g'[k]? = g[k]?) → Q g' H
theorem tgR_ok {K : PySem.W.Frag} {gd : DG} {vs : List Nat} : TGok K (tgR K gd vs) gd vs := fun L0 io0 H0 L io H g e S v d e' Q fr r h q => ⟨L0, io0, H0, L, io, e, S, d, e', fr, r, h, q⟩
/-- a target, and the slots that it may change -/
def QG (X : Cx) (tg : Expr) (gd : DG) (vs : List Nat) : Prop := ∃ t, PG X tg t ∧ TGok X.K t gd vs
theorem QG.canon {X : Cx} {tg : Expr} {gd : DG} {vs : List Nat} (h : QG X tg gd vs) : PG X tg (tgR X.K gd vs) := by
  obtain ⟨t, p, o⟩ := h
  refine ⟨fun pins s g H v u Q I r q => p.run pins s g H v u Q I r ?_⟩
  obtain ⟨L0, io0, H0, L, io, e, S, d, e', fr, rv, hd, q⟩ := q
  exact o L0 io0 H0 L io H g e S v d e' Q fr rv hd q
def gN (i : Nat) : DG := fun d e => some (e.set i (.va d))
abbrev DGs := List Dv → Env → Option Env
def TGsok (K : PySem.W.Frag) (t : TGs) (gd : DGs) (vs : List Nat) : Prop := ∀ (L0 : Addr → Prop) (io0 : List Addr) (H0 : Hp) (L : Addr → Prop) (io : List Addr) (H : Hp) (g : St) (e : Env) (S : Sto) (v : List V) (d : List Dv) (e' : Env) (Q : St → Hp → Prop),
  FR K L0 io0 H0 L io H g e S → VRs K L io H v d → gd d e = some e' → (∀ g', FR K L0 io0 H0 L io H g' e' S → g'.length = g.length → (∀ k, k ∉ vs → g'[k]? = g[k]?) → Q g' H) → t v g H Q
def QGs (X : Cx) (ts : List Expr) (gd : DGs) (n : Nat) (vs : List Nat) : Prop := (∃ t, PGs X ts t ∧ TGsok X.K t gd vs) ∧ ∀ l e e', gd l e = some e' → l.length = n
def gsNil : DGs := fun l e => match l with
  | [] => some e
  | _ => none
def gsCons (g : DG) (gs : DGs) : DGs := fun l e => match l with
  | d :: r => (g d e).bind fun e' => gs r e'
  | [] => none
def gT (gs : DGs) : DG := fun d e => (asT d).bind fun l => gs l e
section
variable {X : Cx} {pos : Pos} {x : Str} {i : Nat} {tg : Expr} {ts : List Expr} {gd : DG} {gds : DGs} {vs ws : List Nat} {n : Nat}
theorem qg_name (hN : X.N.Nodup) (i : Nat) (hi : X.N[i]? = some x := by rfl) (hx : Loc X.env.scope x := by first | exact Or.inl rfl | exact Or.inr rfl) (hf : X.fn x = true ∨ X.env.scope.names.lookup x = some .local := by first | exact .inl rfl | exact .inr rfl) : QG X (.Name x pos) (gN i) [i] := by
  refine ⟨gName i, pg_name hN hi hx hf, fun L0 io0 H0 L io H g e S v d e' Q fr r h q => ?_⟩
  cases h
  exact q _ (fr.setV i r) (List.length_set ..) fun k hk => set_ne (by simpa using hk)
theorem qgs_nil : QGs X [] gsNil 0 [] := by
  refine ⟨⟨gNil, pgs_nil, fun L0 io0 H0 L io H g e S v d e' Q fr r h q => ?_⟩, fun l e e' h => ?_⟩
  · cases r with
    | nil => cases h; exact ⟨rfl, q _ fr rfl fun _ _ => rfl⟩
    | cons => cases h
  · cases l with
    | nil => rfl
    | cons => cases h
theorem qgs_cons (h1 : QG X tg gd vs) (h2 : QGs X ts gds n ws) (hp : ∀ {t u}, PG X tg t → PGs X ts u → PGs X (tg :: ts) (gCons t u) := by intro _ _ a b; exact pgs_cons a b) : QGs X (tg :: ts) (gsCons gd gds) (n + 1) (vs ++ ws) := by
  obtain ⟨t, p1, o1⟩ := h1
  obtain ⟨⟨u, p2, o2⟩, hn⟩ := h2
  refine ⟨⟨gCons t u, hp p1 p2, fun L0 io0 H0 L io H g e S v d e' Q fr r h q => ?_⟩, fun l e e' h => ?_⟩
  · cases r with
    | nil => cases h
    | cons ra rt =>
      rename_i v vs' d ds
      simp only [gsCons] at h
      cases h3 : gd d e with
      | none => rw [h3] at h; cases h
      | some e1 =>
        rw [h3] at h
        refine ⟨v, vs', rfl, o1 L0 io0 H0 L io H g e S v d e1 _ fr ra h3 fun g1 fr1 l1 k1 => ?_⟩
        refine o2 L0 io0 H0 L io H g1 e1 S vs' ds e' _ fr1 rt h fun g2 fr2 l2 k2 => ?_
        exact q g2 fr2 (l2.trans l1) fun k hk => (k2 k fun z => hk (List.mem_append_right _ z)).trans (k1 k fun z => hk (List.mem_append_left _ z))
  · cases l with
    | nil => cases h
    | cons d ds =>
      simp only [gsCons] at h
      cases h3 : gd d e with
      | none => rw [h3] at h; cases h
      | some e1 => rw [h3] at h; rw [List.length_cons, hn ds e1 e' h]
theorem qg_tup {k : Nat} (hc : X.calm = true) (h : QGs X ts gds n vs) (hn : (assignEach ts X.env).length = n := by rfl) (hst : (assignEach ts X.env).findIdx? (·.1) = none := by rfl) : QG X (.Tuple ts k pos) (gT gds) vs := by
  obtain ⟨⟨t, p, o⟩, hl⟩ := h
  refine ⟨gTup X.K n t, pg_tup hc p hn hst, fun L0 io0 H0 L io H g e S v d e' Q fr r h q => ?_⟩
  unfold gT at h
  cases h1 : asT d with
  | none => rw [h1] at h; cases h
  | some l =>
    rw [h1] at h
    obtain ⟨a, xs, rfl, hs, t'⟩ := asT_ok r h1
    exact ⟨a, xs, rfl, hs, by rw [t'.len]; exact hl l e e' h, o L0 io0 H0 L io H g e S xs l e' Q fr t' h q⟩
end
structure WalkR (K : PySem.W.Frag) (L : Addr → Prop) (io : List Addr) (H : Hp) (J : It) (l : List Dv) : Prop where
  go : ∀ (L1 : Addr → Prop) (io1 : List Addr) (H1 : Hp) (S : Sto) (i : Nat) (d : Dv), Stw L io H L1 io1 H1 → SR K L1 io1 H1 S → l[i]? = some d → J.go i H1 ∧ ∀ x H2, J.yld i H1 x H2 → SR K L1 io1 H2 S ∧ Stp L1 io1 H1 L1 io1 H2 ∧ VR K L1 io1 H2 x d
  stop : ∀ (L1 : Addr → Prop) (io1 : List Addr) (H1 : Hp), Stw L io H L1 io1 H1 → J.stop l.length H1
def FinI (K : PySem.W.Frag) (W : WX) (g : St) (L : Addr → Prop) (io : List Addr) (H : Hp) (R : It → Hp → Prop) : Res (List Dv) → Prop
  | .ok l S' => ∀ (J : It) (H' : Hp) (L' : Addr → Prop) (io' : List Addr), Stp L io H L' io' H' → SR K L' io' H' S' → WalkR K L' io' H' J l → R J H'
  | .ex c fs S' => ∀ (x : Option Addr) (H' : Hp) (L' : Addr → Prop) (io' : List Addr), Stp L io H L' io' H' → SR K L' io' H' S' → ExR K L' io' H' x fs → W (.ref (He.ga K c)) x g H'
  | .no => False
def rdi (K : PySem.W.Frag) (W : WX) (f : DL) : TI := fun g H R => ∃ (L0 : Addr → Prop) (io0 : List Addr) (H0 : Hp) (L : Addr → Prop) (io : List Addr) (e : Env) (S : Sto), FR K L0 io0 H0 L io H g e S ∧ FinI K W g L io H R (f e S)
abbrev QI (X : Cx) (W : WX) (tg e : Expr) (f : DL) : Prop := PI X tg e (rdi X.K W f)
theorem FinI.bind {α β : Type} {K : PySem.W.Frag} {W : WX} {R : (Addr → Prop) → List Addr → Hp → β → α → Prop} {f : Env → Sto → Res α} {k : α → Sto → Res (List Dv)} {g : St} {L0 L : Addr → Prop} {io0 io : List Addr} {H0 H : Hp} {e : Env} {S : Sto} {Q : It → Hp → Prop} {P : β → Hp → Prop}
    (fr : FR K L0 io0 H0 L io H g e S) (h : FinI K W g L io H Q (bnd (f e S) k))
    (n : ∀ (L1 : Addr → Prop) (io1 : List Addr) (H1 : Hp) (S1 : Sto) (a : α) (v : β), Stp L io H L1 io1 H1 → FR K L0 io0 H0 L1 io1 H1 g e S1 → R L1 io1 H1 v a → FinI K W g L1 io1 H1 Q (k a S1) → P v H1) : Rdg K W R f g H P := by
  refine ⟨L0, io0, H0, L, io, e, S, fr, ?_⟩
  cases hf : f e S with
  | ok a S1 =>
    rw [hf] at h
    intro v H1 L1 io1 s1 sr1 r1
    have h : FinI K W g L io H Q (k a S1) := h
    refine n L1 io1 H1 S1 a v s1 (fr.step s1 sr1) r1 ?_
    cases hk : k a S1 with
    | ok l S2 =>
      rw [hk] at h
      exact fun v H' L' io' s2 sr r2 => h v H' L' io' (s1.trans s2 fr.st.sub) sr r2
    | ex c fs S2 =>
      rw [hk] at h
      exact fun v H' L' io' s2 sr r2 => h v H' L' io' (s1.trans s2 fr.st.sub) sr r2
    | no => rw [hk] at h; exact h
  | ex c fs S1 => rw [hf] at h; exact h
  | no => rw [hf] at h; exact h
section
variable {K : PySem.W.Frag} {L : Addr → Prop} {io : List Addr} {H : Hp}
theorem SqT.stw {a : Addr} {xs : List V} {ds : List Dv} {L1 : Addr → Prop} {io1 : List Addr} {H1 : Hp} {v : V} (r : VR K L io H v (.tup ds)) (s : Stw L io H L1 io1 H1) : ∃ a xs, v = .ref a ∧ SqT K H1 a xs ∧ VRs K L1 io1 H1 xs ds := (r.stw s).tupS
theorem walk_tup {a : Addr} {ds : List Dv} (r : VR K L io H (.ref a) (.tup ds)) : WalkR K L io H (Itt K a) ds where
  go := fun L1 io1 H1 S i d s sr h => by
    obtain ⟨a', xs, e, hs, t⟩ := (r.stw s).tupS
    cases e
    obtain ⟨v, h1, h2⟩ := t.get h
    refine ⟨⟨xs, v, hs, h1⟩, fun x H2 ⟨e, y⟩ => ?_⟩
    subst e
    have := y xs hs
    rw [h1] at this
    cases this
    exact ⟨sr, Stp.refl .., h2⟩
  stop := fun L1 io1 H1 s => by
    obtain ⟨a', xs, e, hs, t⟩ := (r.stw s).tupS
    cases e
    exact ⟨xs, hs, by rw [t.len]; exact Nat.le_refl _⟩
/-- a list that no handle holds -/
def asF : Dv → Option (List Dv)
  | .lst l => some l
  | .rol l => some l
  | _ => none
theorem asF_ok {v : V} {d : Dv} {l : List Dv} (r : VR K L io H v d) (h : asF d = some l) : ∃ a xs, v = .ref a ∧ SqL K H a xs ∧ VRs K L io H xs l := by
  cases r with
  | lst nl e t => cases h; exact ⟨_, _, rfl, SqL.of e, t⟩
  | rol nl e t => cases h; exact ⟨_, _, rfl, .inl e, t⟩
  | rolK e t => cases h; exact ⟨_, _, rfl, e H, t⟩
  | _ => cases h
theorem walk_lst {a : Addr} {d : Dv} {ds : List Dv} (r : VR K L io H (.ref a) d) (h : asF d = some ds) : WalkR K L io H (Itl K a) ds where
  go := fun L1 io1 H1 S i d s sr hd => by
    obtain ⟨a', xs, e, hs, t⟩ := asF_ok (r.stw s) h
    cases e
    obtain ⟨v, h1, h2⟩ := t.get hd
    refine ⟨⟨xs, v, hs, h1⟩, fun x H2 ⟨e, y⟩ => ?_⟩
    subst e
    have := y xs hs
    rw [h1] at this
    cases this
    exact ⟨sr, Stp.refl .., h2⟩
  stop := fun L1 io1 H1 s => by
    obtain ⟨a', xs, e, hs, t⟩ := asF_ok (r.stw s) h
    cases e
    exact ⟨xs, hs, by rw [t.len]; exact Nat.le_refl _⟩
def rngD (lo : Int) (n : Nat) : List Dv := (List.range n).map fun (i : Nat) => Dv.int (lo + (i : Int))
theorem walk_rng {lo : Int} {n : Nat} : WalkR K L io H (Itr lo n) (rngD lo n) where
  go := fun L1 io1 H1 S i d s sr hd => by
    unfold rngD at hd
    rw [List.getElem?_map] at hd
    cases e : (List.range n)[i]? with
    | none => rw [e] at hd; cases hd
    | some j =>
      rw [e] at hd
      have hi := (List.getElem?_eq_some_iff.mp e)
      obtain ⟨h1, h2⟩ := hi
      rw [List.getElem_range] at h2
      subst h2
      cases hd
      rw [List.length_range] at h1
      refine ⟨h1, fun x H2 ⟨e, y⟩ => ?_⟩
      subst e y
      exact ⟨sr, Stp.refl .., .int _⟩
  stop := fun L1 io1 H1 s => by
    show n ≤ (rngD lo n).length
    unfold rngD
    rw [List.length_map, List.length_range]
    exact Nat.le_refl _
end
section
variable {X : Cx} {W : WX} {pos p : Pos} {tg a b : Expr} {f f2 : DE}
/-- what pyIter gives of a value -/
def IterR (X : Cx) (tg : Expr) (r : V → Hp → (It → Hp → Prop) → Prop) : Prop := ∀ (pins : List (Addr × Obj)) (s : Shared) (g : St) (H : Hp) (x : V) (v : Value) (R : It → Hp → Prop), Inv X pins g H s → RelV x v → r x H R → wpAny (model X.prog X.w) X.A (pyIter v) (PIE X pins g tg R) X.xe s
theorem IterR.or' {r r' : V → Hp → (It → Hp → Prop) → Prop} (h : IterR X tg r) (h' : IterR X tg r') : IterR X tg (fun x H R => r x H R ∨ r' x H R) := fun pins s g H x v R I rx q => q.elim (h pins s g H x v R I rx) (h' pins s g H x v R I rx)
theorem pi_of {l : Expr} {tl : TE} {r : V → Hp → (It → Hp → Prop) → Prop} (hl : PE X l tl) (hr : IterR X tg r) : PI X tg l (fun g H R => tl g H fun x H1 => r x H1 R) :=
  ⟨fun pins s g H R I h => thn (hl.run pins s g H _ I h) fun v s1 ⟨x, H1, I1, r1, q1⟩ => hr pins s1 g H1 x v R I1 r1 q1⟩
theorem iter_lst : IterR X tg (fun x H R => ∃ a, x = .ref a ∧ (∃ xs, SqL X.K H a xs) ∧ R (Itl X.K a) H) := by
  rintro pins s g H x v R I rx ⟨a, rfl, ⟨xs, hq⟩, q⟩
  obtain rfl : v = .ref a := rx
  obtain ⟨its, rv, p, hz⟩ := I.list hq
  exact wpAny_pyIter_list p.isList ⟨_, _, _, _, H, rfl, I.kept (t' := s.toks) fun b o e => Heap.get?_push_of_some _ e, turn_list a _, ⟨_, Heap.get?_push_size _ rfl, rfl, rfl⟩, fun b hb => by
    rw [show b = s.heap.objs.size from by simpa using hb]
    exact I.fpOk (Nat.le_refl _) (I.hok.fresh (Nat.le_refl _)), q⟩
theorem iter_tup : IterR X tg (fun x H R => ∃ a, x = .ref a ∧ (∃ xs, SqT X.K H a xs) ∧ R (Itt X.K a) H) := by
  rintro pins s g H x v R I rx ⟨a, rfl, ⟨xs, hq⟩, q⟩
  obtain rfl : v = .ref a := rx
  obtain ⟨its, rv, p, hz⟩ := I.tuple hq
  exact wpAny_pyIter_tuple (show s.heap.IsTuple a its.toArray from p) ⟨_, _, _, _, H, rfl, I.kept (t' := s.toks) fun b o e => Heap.get?_push_of_some _ e, turn_tuple a _, ⟨_, Heap.get?_push_size _ rfl, rfl, rfl⟩, fun b hb => by
    rw [show b = s.heap.objs.size from by simpa using hb]
    exact I.fpOk (Nat.le_refl _) (I.hok.fresh (Nat.le_refl _)), q⟩
theorem iter_str : IterR X tg (fun x H R => ∃ z, x = .str z ∧ R (Its z) H) := by
  rintro pins s g H x v R I rx ⟨z, rfl, q⟩
  obtain ⟨t, rfl⟩ := rx
  cases ha : z.cps.all (· < 128)
  · exact wpAny_pyIter_wide ha (pi_one (tk := s.toks) I _ (turn_str _ z t "str_iterator" (.inr rfl)) ⟨_, Heap.get?_push_size _ rfl, rfl, rfl⟩ q)
  · exact wpAny_pyIter_ascii ha (pi_one (tk := s.toks) I _ (turn_str _ z t "str_ascii_iterator" (.inl rfl)) ⟨_, Heap.get?_push_size _ rfl, rfl, rfl⟩ q)
def strL (z : Str) : List Dv := z.cps.toList.map fun c => Dv.str ⟨#[c]⟩
theorem walk_str {K : PySem.W.Frag} {L : Addr → Prop} {io : List Addr} {H : Hp} {z : Str} : WalkR K L io H (Its z) (strL z) where
  go := fun L1 io1 H1 S i d s sr hd => by
    unfold strL at hd
    rw [List.getElem?_map] at hd
    cases e : z.cps.toList[i]? with
    | none => rw [e] at hd; cases hd
    | some c =>
      rw [e] at hd
      cases hd
      have hi := (List.getElem?_eq_some_iff.mp e).1
      refine ⟨(by simpa using hi : i < z.cps.size), fun x H2 ⟨e2, c', y1, y2⟩ => ?_⟩
      subst e2 y2
      have : c' = c := by
        rw [Array.getElem?_toList] at e
        rw [e] at y1
        exact (Option.some.inj y1).symm
      subst this
      exact ⟨sr, Stp.refl .., .str _⟩
  stop := fun L1 io1 H1 s => by
    show z.cps.size ≤ (strL z).length
    unfold strL
    simp
def seqR (d : Dv) (S : Sto) : Res (List Dv) := match d with
  | .tup l => .ok l S
  | .lst l => .ok l S
  | .rol l => .ok l S
  | .str z => .ok (strL z) S
  | _ => .no
def iSq (f : DE) : DL := fun e S => bnd (f e S) seqR
theorem qi_seq (h : QE X W a f) : QI X W tg a (iSq f) := by
  have hp := pi_of h (IterR.or' (iter_lst (X := X) (tg := tg)) (IterR.or' iter_tup iter_str))
  refine ⟨fun pins s g H R I q => hp.run pins s g H R I ?_⟩
  obtain ⟨L0, io0, H0, L, io, e, S, fr, q⟩ := q
  refine FinI.bind (R := VR X.K) (k := seqR) fr q fun L1 io1 H1 S1 d v s1 fr1 r1 q => ?_
  cases d with
  | tup l =>
    obtain ⟨a, xs, rfl, hs, t⟩ := r1.tupS
    exact .inr (.inl ⟨a, rfl, ⟨xs, hs⟩, q _ H1 L1 io1 (Stp.refl ..) fr1.st (walk_tup r1)⟩)
  | lst l =>
    obtain ⟨a, xs, rfl, hs, t⟩ := asF_ok r1 rfl
    exact .inl ⟨a, rfl, ⟨xs, hs⟩, q _ H1 L1 io1 (Stp.refl ..) fr1.st (walk_lst r1 rfl)⟩
  | rol l =>
    obtain ⟨a, xs, rfl, hs, t⟩ := asF_ok r1 rfl
    exact .inl ⟨a, rfl, ⟨xs, hs⟩, q _ H1 L1 io1 (Stp.refl ..) fr1.st (walk_lst r1 rfl)⟩
  | str z =>
    cases r1
    exact .inr (.inr ⟨z, rfl, q _ H1 L1 io1 (Stp.refl ..) fr1.st walk_str⟩)
  | _ => exact q.elim
def rngR1 : List Dv → Sto → Res (List Dv)
  | [.int j], S => if -(2 ^ 62) ≤ j ∧ j < 2 ^ 62 then .ok (rngD 0 j.toNat) S else .no
  | _, _ => .no
def rngR2 : List Dv → Sto → Res (List Dv)
  | [.int i, .int j], S => if -(2 ^ 62) ≤ i ∧ i < 2 ^ 62 ∧ -(2 ^ 62) ≤ j ∧ j < 2 ^ 62 then .ok (rngD i (j - i).toNat) S else .no
  | _, _ => .no
def iRng1' (fa : DA) : DL := fun e S => bnd (fa e S) rngR1
def iRng2' (fa : DA) : DL := fun e S => bnd (fa e S) rngR2
theorem qi_range1 (hm : X.mg "range" = none) {fa : DA} (ha : QA X W [a] fa) (hg : Gl X "range" := by rfl) (hs : starEach [a] X.env = [(false, eval a X.env)] := by rfl) : QI X W tg (.Call (.Name "range" p) [a] [] pos) (iRng1' fa) := by
  have hp := pi_range1 (tg := tg) (p := p) (pos := pos) hg hm ha hs
  refine ⟨fun pins s g H R I q => hp.run pins s g H R I ?_⟩
  obtain ⟨L0, io0, H0, L, io, e, S, fr, q⟩ := q
  refine FinI.bind (R := VRs X.K) (k := rngR1) fr q fun L1 io1 H1 S1 l v s1 fr1 r1 q => ?_
  cases r1 with
  | nil => exact q.elim
  | cons r t =>
    cases r with
    | int j =>
      cases t with
      | nil =>
        simp only [rngR1] at q
        split at q
        · rename_i h
          exact ⟨j, rfl, h.1, h.2, q _ H1 L1 io1 (Stp.refl ..) fr1.st walk_rng⟩
        · exact q.elim
      | cons r2 t2 => exact q.elim
    | _ => exact q.elim
theorem qi_range2 (hm : X.mg "range" = none) {fa : DA} (ha : QA X W [a, b] fa) (hg : Gl X "range" := by rfl) (hs : starEach [a, b] X.env = [(false, eval a X.env), (false, eval b X.env)] := by rfl) (hs2 : starEach [b] X.env = [(false, eval b X.env)] := by rfl) : QI X W tg (.Call (.Name "range" p) [a, b] [] pos) (iRng2' fa) := by
  have hp := pi_range2 (tg := tg) (p := p) (pos := pos) hg hm ha hs hs2
  refine ⟨fun pins s g H R I q => hp.run pins s g H R I ?_⟩
  obtain ⟨L0, io0, H0, L, io, e, S, fr, q⟩ := q
  refine FinI.bind (R := VRs X.K) (k := rngR2) fr q fun L1 io1 H1 S1 l v s1 fr1 r1 q => ?_
  cases r1 with
  | nil => exact q.elim
  | cons r t =>
    cases r with
    | int j =>
      cases t with
      | nil => exact q.elim
      | cons r2 t2 =>
        cases r2 with
        | int i =>
          cases t2 with
          | nil =>
            simp only [rngR2] at q
            split at q
            · rename_i h
              exact ⟨j, i, rfl, h, q _ H1 L1 io1 (Stp.refl ..) fr1.st walk_rng⟩
            · exact q.elim
          | cons => exact q.elim
        | _ => exact q.elim
    | _ => exact q.elim
end
end DL
namespace DL
open PySem L2
def W0 : WX := fun _ _ _ _ => False
def lcR (tg : DG) (tt : DT) (te : DE) (e : Env) : List Dv → Sto → Res (List Dv)
  | [], S => .ok [] S
  | d :: ds, S => match tg d e with
    | none => .no
    | some e' => match tt e' S with
      | .ok b S1 => if b then (match te e' S1 with
          | .ok y S2 => (match lcR tg tt te e ds S2 with
            | .ok l S3 => .ok (y :: l) S3
            | _ => .no)
          | _ => .no) else lcR tg tt te e ds S1
      | _ => .no
def fLc (fi : DL) (tg : DG) (tt : DT) (te : DE) (vs : List Nat) : DL := fun e S => bnd (fi e S) fun ds S1 => match lcR tg tt te (wipeE e vs) ds S1 with
  | .ok l S2 => if l.length ≤ sizeLine then .ok l S2 else .no
  | _ => .no
def tTrue : DT := fun _ S => .ok true S
abbrev QTs (X : Cx) (W : WX) (es : List Expr) (f : DT) : Prop := PTs X es (rdt X.K W f)
theorem pts_imp {X : Cx} {e : List Expr} {t t' : TT} (h : PTs X e t) (i : ∀ g H Q, t' g H Q → t g H Q) : PTs X e t' := ⟨fun pins s g H Q I q => h.run pins s g H Q I (i g H Q q)⟩
theorem qts_nil {X : Cx} {W : WX} : QTs X W [] tTrue := pts_imp pts_nil fun g H Q q => by
  obtain ⟨L0, io0, H0, L, io, e, S, fr, q⟩ := q
  exact q.ok1 fr.st rfl
theorem qts_one {X : Cx} {W : WX} {c : Expr} {t : DT} (h : QT X W c t) : QTs X W [c] t := pts_one h
theorem FinI.bindF {K : PySem.W.Frag} {W : WX} {f : DL} {k : List Dv → Sto → Res (List Dv)} {g : St} {L0 L : Addr → Prop} {io0 io : List Addr} {H0 H : Hp} {e : Env} {S : Sto} {Q : V → Hp → Prop} {P : It → Hp → Prop}
    (fr : FR K L0 io0 H0 L io H g e S) (h : FinF K W g L io H Q (bnd (f e S) k))
    (n : ∀ (L1 : Addr → Prop) (io1 : List Addr) (H1 : Hp) (S1 : Sto) (a : List Dv) (J : It), Stp L io H L1 io1 H1 → FR K L0 io0 H0 L1 io1 H1 g e S1 → WalkR K L1 io1 H1 J a → FinF K W g L1 io1 H1 Q (k a S1) → P J H1) : rdi K W f g H P := by
  refine ⟨L0, io0, H0, L, io, e, S, fr, ?_⟩
  cases hf : f e S with
  | ok a S1 =>
    rw [hf] at h
    intro v H1 L1 io1 s1 sr1 r1
    have h : FinF K W g L io H Q (k a S1) := h
    refine n L1 io1 H1 S1 a v s1 (fr.step s1 sr1) r1 ?_
    cases hk : k a S1 with
    | ok l S2 =>
      rw [hk] at h
      intro v H' L' io' s2 sr2 ⟨p, xs, e1, e2, e3⟩
      refine h v H' L' io' (s1.trans s2 fr.st.sub) sr2 ⟨p, xs, e1, ?_, e3⟩
      rcases s1.back e2 with z | z
      · exact absurd e2 (sr1.dom p (s1.up p (fr.st.sub p z)))
      · exact z
    | ex c fs S2 =>
      rw [hk] at h
      exact fun v H' L' io' s2 sr r2 => h v H' L' io' (s1.trans s2 fr.st.sub) sr r2
    | no => rw [hk] at h; exact h
  | ex c fs S1 => rw [hf] at h; exact h
  | no => rw [hf] at h; exact h
section
variable {X : Cx} {W : WX} {elt tg iter : Expr} {ifs : List Expr} {scope : Scope} {own : List (Str × Nat)} {pos : Pos} {fi : DL} {gd : DG} {tt : DT} {te : DE} {vs : List Nat}
theorem rd_lc {K : PySem.W.Frag} {t : TG} (ho : TGok K t gd vs) {g : St} {H : Hp} {Q : VK} (q : rdF K W (fLc fi gd tt te vs) g H Q) : tLc (rdi K W fi) t (rdt K W0 tt) (rd K W0 te) vs g H Q := by
  obtain ⟨L0, io0, H0, L, io, e, S, fr, q⟩ := q
  refine FinI.bindF (k := fun ds S1 => match lcR gd tt te (wipeE e vs) ds S1 with
    | .ok l S2 => if l.length ≤ sizeLine then .ok l S2 else .no
    | _ => .no) fr q fun L1 io1 H1 S1 ds J s1 fr1 wk q => ?_
  cases hl : lcR gd tt te (wipeE e vs) ds S1 with
  | ex c fs S2 => rw [hl] at q; exact q.elim
  | no => rw [hl] at q; exact q.elim
  | ok l S2 =>
    rw [hl] at q
    simp only at q
    split at q
    · rename_i hz
      intro D hD
      have st0 := fr1.st
      -- the invariant
      refine ⟨fun i m H' => m = ds.length - i ∧ i ≤ ds.length ∧ ∃ (L' : Addr → Prop) (io' : List Addr) (S' : Sto) (acc : List V) (da dr : List Dv), FR K L0 io0 H0 L' io' H' (L2.wipe g vs) (wipeE e vs) S' ∧ Stp L1 io1 H1 L' io' H' ∧ Stw L1 io1 H1 L' io' H' ∧ L' D ∧ D ∉ io' ∧ H' D = some (.lst acc) ∧ VRs K L' io' H' acc da ∧ lcR gd tt te (wipeE e vs) (ds.drop i) S' = .ok dr S2 ∧ da ++ dr = l, ⟨ds.length, by simp, Nat.zero_le _, ?_⟩, ?_⟩
      · have s2 : Stp L1 io1 H1 (Ly L1 D) io1 (upd H1 D (.lst [])) := Stp.newV hD
        exact ⟨Ly L1 D, io1, S1, [], [], l, (fr1.step s2 (st0.newV hD)).wipe vs, s2, s2.stw st0.sub, .inr rfl, fun z => st0.dom D (st0.sub D z) hD, upd_same, .nil, by rw [List.drop_zero]; exact hl, rfl⟩
      · rintro i m H' ⟨rfl, hi, L', io', S', acc, da, dr, fr', sp, sw, lD, nD, hDa, ra, hr, hda⟩
        by_cases hlt : i < ds.length
        · obtain ⟨d, hd⟩ : ∃ d, ds[i]? = some d := ⟨_, List.getElem?_eq_getElem hlt⟩
          have hdrop : ds.drop i = d :: ds.drop (i + 1) := by
            rw [List.drop_eq_getElem_cons hlt]
            rw [List.getElem?_eq_getElem hlt] at hd
            cases hd
            rfl
          rw [hdrop] at hr
          obtain ⟨hgo, hy⟩ := wk.go L' io' H' S' i d sw fr'.st hd
          refine .inr ⟨hgo, fun H'' => ∃ m', m' < ds.length - i ∧ (m' = ds.length - (i + 1) ∧ i + 1 ≤ ds.length ∧ ∃ (L' : Addr → Prop) (io' : List Addr) (S' : Sto) (acc : List V) (da dr : List Dv), FR K L0 io0 H0 L' io' H'' (L2.wipe g vs) (wipeE e vs) S' ∧ Stp L1 io1 H1 L' io' H'' ∧ Stw L1 io1 H1 L' io' H'' ∧ L' D ∧ D ∉ io' ∧ H'' D = some (.lst acc) ∧ VRs K L' io' H'' acc da ∧ lcR gd tt te (wipeE e vs) (ds.drop (i + 1)) S' = .ok dr S2 ∧ da ++ dr = l), fun H'' h => h, fun x H2 y => ?_⟩
          obtain ⟨sr2, sp2, r2⟩ := hy x H2 y
          have fr2 := fr'.step sp2 sr2
          -- the target
          simp only [lcR] at hr
          cases hg : gd d (wipeE e vs) with
          | none => rw [hg] at hr; cases hr
          | some e' =>
            rw [hg] at hr
            simp only at hr
            refine ho L0 io0 H0 L' io' H2 (L2.wipe g vs) (wipeE e vs) S' x d e' _ fr2 r2 hg fun g' fr3 lg kg => ⟨?_, ?_⟩
            · exact (wipe_ext lg kg).trans (wipe_ext (L2.wipe_length g vs) fun k hk => by rw [wipe_get, if_neg hk])
            -- the test
            · cases ht : tt e' S' with
              | ex c fs S3 => rw [ht] at hr; cases hr
              | no => rw [ht] at hr; cases hr
              | ok b S3 =>
                rw [ht] at hr
                simp only at hr
                refine ⟨L0, io0, H0, L', io', e', S', fr3, ?_⟩
                rw [ht]
                intro b' H3 L3 io3 s3 sr3 eb
                subst eb
                have fr3' := fr2.step s3 sr3
                have sp3 := (sp.trans sp2 st0.sub).trans s3 st0.sub
                have sw3 := (sw.trans (sp2.stw fr'.st.sub)).trans (s3.stw fr2.st.sub)
                have l3 : L3 D := s3.up D (sp2.up D lD)
                have k2 : H2 D = some (.lst acc) := sp2.keep D _ hDa nD
                have n3 : D ∉ io3 := fun z => by
                  rcases s3.hn D z with q | q
                  · exact nD q
                  · rw [q] at k2; cases k2
                have k3 : H3 D = some (.lst acc) := s3.keep D _ k2 nD
                have ra3 := (ra.step sp2 fr'.st.sub).step s3 fr2.st.sub
                cases b' with
                | false =>
                  rw [if_neg Bool.false_ne_true] at hr
                  refine iteF ⟨_, by omega, rfl, hlt, L3, io3, S3, acc, da, dr, fr3', sp3, sw3, l3, n3, k3, ra3, hr, hda⟩
                | true =>
                  rw [if_pos rfl] at hr
                  refine iteT ?_
                  -- the element
                  cases he : te e' S3 with
                  | ex c fs S4 => rw [he] at hr; cases hr
                  | no => rw [he] at hr; cases hr
                  | ok y' S4 =>
                    rw [he] at hr
                    simp only at hr
                    refine ⟨L0, io0, H0, L3, io3, e', S3, fr3.step s3 sr3, ?_⟩
                    rw [he]
                    intro y H4 L4 io4 s4 sr4 ry
                    have k4 : H4 D = some (.lst acc) := s4.keep D _ k3 n3
                    have l4 : L4 D := s4.up D l3
                    have n4 : D ∉ io4 := fun z => by
                      rcases s4.hn D z with q | q
                      · exact n3 q
                      · rw [q] at k3; cases k3
                    have fr4 := fr3'.step s4 sr4
                    have sp4 := sp3.trans s4 st0.sub
                    have sw4 := sw3.trans (s4.stw fr3'.st.sub)
                    have ra4 := ra3.step s4 fr3'.st.sub
                    cases hrest : lcR gd tt te (wipeE e vs) (ds.drop (i + 1)) S4 with
                    | ex c fs S5 => rw [hrest] at hr; cases hr
                    | no => rw [hrest] at hr; cases hr
                    | ok l' S5 =>
                      rw [hrest] at hr
                      cases hr
                      have hlen : acc.length < sizeLine := by
                        rw [ra.len]
                        rw [← hda, List.length_append, List.length_cons] at hz
                        omega
                      have hD1 : H1 D = none := hD
                      have frm : FR K L0 io0 H0 L4 io4 (upd H4 D (.lst (acc ++ [y]))) (L2.wipe g vs) (wipeE e vs) S4 := by
                        refine fr4.mutD l4 n4 (fr1.fresh0 hD) fun j q' v1 v2 v3 hg' => ?_
                        obtain ⟨o, ho', _⟩ := (fr1.wipe vs).ownAt v1 v2 v3 hg'
                        exact ne_of_none ho' hD
                      refine ⟨acc, k4, hlen, _, by omega, rfl, hlt, L4, io4, S4, acc ++ [y], da ++ [y'], l', frm, ?_, sw4.trans (Stw.mut l4), l4, n4, upd_same, (ra4.app (.cons ry .nil)).mut l4, hrest, by rw [List.append_assoc]; exact hda⟩
                      exact ⟨sp4.pre, sp4.hn, sp4.new, fun a o h n => by rw [upd_ne (ne_of_none h hD1)]; exact sp4.keep a o h n, sp4.up⟩
        · have ei : i = ds.length := by omega
          subst ei
          rw [List.drop_length] at hr
          cases hr
          rw [List.append_nil] at hda
          subst hda
          refine .inl ⟨wk.stop L' io' H' sw, ?_⟩
          exact q _ H' L' io' sp fr'.st ⟨D, acc, rfl, hD, lD, nD, hDa, ra⟩
    · exact q.elim
theorem qf_lc (hc : X.calm = true) (hN : X.N.Nodup) (hi : QI X W tg iter fi) (ok : BlkOk X.N X.env.scope scope own)
    (hg : ∀ (s : Shared) (H : Hp) (C : Addr) (cl : List (Str × Addr)) (fp : List Addr), QG (X.blk s H scope (compEnvC scope cl C X.env) fp) tg gd (own.map (·.2)))
    (ht : ∀ (s : Shared) (H : Hp) (C : Addr) (cl : List (Str × Addr)) (fp : List Addr), QTs (X.blk s H scope (compEnvC scope cl C X.env) fp) W0 ifs tt)
    (he : ∀ (s : Shared) (H : Hp) (C : Addr) (cl : List (Str × Addr)) (fp : List Addr), QE (X.blk s H scope (compEnvC scope cl C X.env) fp) W0 elt te) (hs : ∀ x, foldedSetIterable iter X.env x = pure x := by intro _; rfl) :
    QF X W (.ListComp elt [⟨tg, iter, ifs, 0⟩] scope pos) (fLc fi gd tt te (own.map (·.2))) :=
  pe_imp (pe_lc (g := tgR X.K gd (own.map (·.2))) (tt := rdt X.K W0 tt) (te := rd X.K W0 te) hc hN hi ok (fun s H C cl fp => (hg s H C cl fp).canon) ht he hs) fun g H Q q => rd_lc tgR_ok q
end
end DL
namespace DL
open PySem L2
inductive Out where
  | nx (e : Env) (S : Sto) | rt (d : Dv) (S : Sto) | bk (e : Env) (S : Sto) | ct (e : Env) (S : Sto) | ex (c : Str) (fs : List (Str × Dv)) (e : Env) (S : Sto) | no
abbrev DS := Env → Sto → Out
def outR (K : PySem.W.Frag) (W : WX) (L0 : Addr → Prop) (io0 : List Addr) (H0 : Hp) (D : Ends) (L : Addr → Prop) (io : List Addr) (H : Hp) : Out → Prop
  | .nx e S => ∀ (g : St) (H' : Hp) (L' : Addr → Prop) (io' : List Addr), Stw L io H L' io' H' → FR K L0 io0 H0 L' io' H' g e S → D.nx g H'
  | .bk e S => ∀ (g : St) (H' : Hp) (L' : Addr → Prop) (io' : List Addr), Stw L io H L' io' H' → FR K L0 io0 H0 L' io' H' g e S → D.bk g H'
  | .ct e S => ∀ (g : St) (H' : Hp) (L' : Addr → Prop) (io' : List Addr), Stw L io H L' io' H' → FR K L0 io0 H0 L' io' H' g e S → D.ct g H'
  | .rt d S => ∀ (v : V) (H' : Hp) (L' : Addr → Prop) (io' : List Addr), SR K L' io' H' S → Stp L0 io0 H0 L' io' H' → VR K L' io' H' v d → D.rt v H'
  | .ex c fs e S => ∀ (x : Option Addr) (g : St) (H' : Hp) (L' : Addr → Prop) (io' : List Addr), Stw L io H L' io' H' → FR K L0 io0 H0 L' io' H' g e S → ExR K L' io' H' x fs → W (.ref (He.ga K c)) x g H'
  | .no => False
def rds (K : PySem.W.Frag) (W : WX) (f : DS) : TS := fun D g H => ∃ (L0 : Addr → Prop) (io0 : List Addr) (H0 : Hp) (L : Addr → Prop) (io : List Addr) (e : Env) (S : Sto), FR K L0 io0 H0 L io H g e S ∧ outR K W L0 io0 H0 D L io H (f e S)
abbrev QS (X : Cx) (W : WX) (st : Stmt) (f : DS) : Prop := PS X st (rds X.K W f)
abbrev QSs (X : Cx) (W : WX) (sts : List Stmt) (f : DS) : Prop := PSs X sts (rds X.K W f)
theorem outR.later {K : PySem.W.Frag} {W : WX} {L0 L L1 : Addr → Prop} {io0 io io1 : List Addr} {H0 H H1 : Hp} {D : Ends} {o : Out} (h : outR K W L0 io0 H0 D L io H o) (s : Stw L io H L1 io1 H1) : outR K W L0 io0 H0 D L1 io1 H1 o := by
  cases o with
  | nx e S => exact fun g H' L' io' s2 fr => h g H' L' io' (s.trans s2) fr
  | bk e S => exact fun g H' L' io' s2 fr => h g H' L' io' (s.trans s2) fr
  | ct e S => exact fun g H' L' io' s2 fr => h g H' L' io' (s.trans s2) fr
  | rt d S => exact h
  | ex c fs e S => exact fun x g H' L' io' s2 fr => h x g H' L' io' (s.trans s2) fr
  | no => exact h
def sBind {α : Type} (f : Env → Sto → Res α) (k : Env → α → Sto → Out) : DS := fun e S => match f e S with
  | .ok a S' => k e a S'
  | .ex c fs S' => .ex c fs e S'
  | .no => .no
theorem rds_bind {α β : Type} {K : PySem.W.Frag} {W : WX} {R : (Addr → Prop) → List Addr → Hp → β → α → Prop} {f : Env → Sto → Res α} {k : Env → α → Sto → Out} {D : Ends} {g : St} {H : Hp} {P : β → Hp → Prop} (h : rds K W (sBind f k) D g H)
    (n : ∀ (L0 : Addr → Prop) (io0 : List Addr) (H0 : Hp) (L : Addr → Prop) (io : List Addr) (H1 : Hp) (e : Env) (S : Sto) (a : α) (v : β), FR K L0 io0 H0 L io H1 g e S → R L io H1 v a → outR K W L0 io0 H0 D L io H1 (k e a S) → P v H1) : Rdg K W R f g H P := by
  obtain ⟨L0, io0, H0, L, io, e, S, fr, h⟩ := h
  unfold sBind at h
  refine ⟨L0, io0, H0, L, io, e, S, fr, ?_⟩
  cases hf : f e S with
  | ok a S1 =>
    rw [hf] at h
    intro v H1 L1 io1 s1 sr1 r1
    exact n L0 io0 H0 L1 io1 H1 e S1 a v (fr.step s1 sr1) r1 (outR.later h (s1.stw fr.st.sub))
  | ex c fs S1 =>
    rw [hf] at h
    exact fun x H' L' io' s sr r => h x g H' L' io' (s.stw fr.st.sub) (fr.step s sr) r
  | no => rw [hf] at h; exact h
section
variable {X : Cx} {W : WX} {pos : Pos} {a b c : Expr} {f : DE} {t : DT} {f1 f2 : DS} {st : Stmt} {rest sa sb : List Stmt} {i : Nat} {x : Str}
def sNil : DS := fun e S => .nx e S
def sSeq (f1 f2 : DS) : DS := fun e S => match f1 e S with
  | .nx e' S' => f2 e' S'
  | o => o
theorem qss_nil : QSs X W [] sNil := pss_imp pss_nil fun D g H h => by
  obtain ⟨L0, io0, H0, L, io, e, S, fr, h⟩ := h
  exact h g H L io (Stw.refl ..) fr
theorem qss_cons (h1 : QS X W st f1) (h2 : QSs X W rest f2) : QSs X W (st :: rest) (sSeq f1 f2) := pss_imp (pss_cons h1 h2) fun D g H h => by
  obtain ⟨L0, io0, H0, L, io, e, S, fr, h⟩ := h
  unfold sSeq at h
  refine ⟨L0, io0, H0, L, io, e, S, fr, ?_⟩
  cases hf : f1 e S with
  | nx e' S' =>
    rw [hf] at h
    exact fun g' H' L' io' s fr' => ⟨L0, io0, H0, L', io', e', S', fr', outR.later h s⟩
  | _ => rw [hf] at h; exact h
theorem qss_one (h1 : QS X W st f1) : QSs X W [st] f1 := pss_one h1
def sRet (f : DE) : DS := sBind f fun _ d S => .rt d S
theorem qs_ret (h : QE X W a f) : QS X W (.Return (some a) pos) (sRet f) := ps_imp (ps_ret h) fun D g H h => by
  refine rds_bind (R := VR X.K) (k := fun _ d S => .rt d S) h fun L0 io0 H0 L io H1 e S d v fr r q => ?_
  exact q v H1 L io fr.st fr.en r
def sExpr (f : DE) : DS := sBind f fun e _ S => .nx e S
theorem qs_expr (h : QE X W a f) (hs : swapsWith a none pos.line X.env = pure false := by rfl) : QS X W (.Expr a pos) (sExpr f) := ps_imp (ps_expr h hs) fun D g H h => by
  refine rds_bind (R := VR X.K) (k := fun e _ S => .nx e S) h fun L0 io0 H0 L io H1 e S d v fr r q => ?_
  exact q g H1 L io (Stw.refl ..) fr
def sIf (t : DT) (f1 f2 : DS) : DS := sBind t fun e b S => if b then f1 e S else f2 e S
theorem qs_if (hc : QT X W c t) (ha : QSs X W sa f1) (hb : QSs X W sb f2) : QS X W (.If c sa sb pos) (sIf t f1 f2) := ps_imp (ps_if hc ha hb) fun D g H h => by
  refine rds_bind (R := fun _ _ _ (v : Bool) d => v = d) (k := fun e b S => if b then f1 e S else f2 e S) h fun L0 io0 H0 L io H1 e S d v fr r q => ?_
  subst r
  cases v with
  | true => exact iteT ⟨L0, io0, H0, L, io, e, S, fr, q⟩
  | false => exact iteF ⟨L0, io0, H0, L, io, e, S, fr, q⟩
/-- x = e -/
def sAsg (i : Nat) (f : DE) : DS := sBind f fun e d S => .nx (e.set i (.va d)) S
theorem qs_asg (hN : X.N.Nodup) (i : Nat) {pos' : Pos} (h : QE X W a f) (hi : X.N[i]? = some x := by rfl) (hx : Loc X.env.scope x := by first | exact Or.inl rfl | exact Or.inr rfl) (hs : swapsWith a (some (.Name x pos')) pos.line X.env = pure false := by rfl) (hf : X.fn x = true ∨ X.env.scope.names.lookup x = some .local := by first | exact .inl rfl | exact .inr rfl) :
    QS X W (.Assign [.Name x pos'] a pos) (sAsg i f) := ps_imp (ps_set hN hi hx h hs hf) fun D g H h => by
  refine rds_bind (R := VR X.K) (k := fun e d S => .nx (e.set i (.va d)) S) h fun L0 io0 H0 L io H1 e S d v fr r q => ?_
  exact q _ H1 L io (Stw.refl ..) (fr.setV i r)
/-- targets of any form -/
def sAsgG (gd : DG) (f : DE) : DS := sBind f fun e d S => match gd d e with
  | some e' => .nx e' S
  | none => .no
theorem qs_asgG {tg : Expr} {gd : DG} {vs : List Nat} (h : QE X W a f) (hg : QG X tg gd vs) (hs : swapsWithSole [tg] a pos.line X.env = pure false := by rfl) (hw : swappedStores [tg] a X.env = pure none := by rfl)
    (hp : ∀ {te g}, PE X a te → PG X tg g → PS X (.Assign [tg] a pos) (tAsg te g) := by intro _ _ h1 h2; exact ps_asg h1 h2) : QS X W (.Assign [tg] a pos) (sAsgG gd f) := ps_imp (hp h hg.canon) fun D g H h => by
  refine rds_bind (R := VR X.K) (k := fun e d S => match gd d e with
    | some e' => .nx e' S
    | none => .no) h fun L0 io0 H0 L io H1 e S d v fr r q => ?_
  cases hd : gd d e with
  | none => rw [hd] at q; exact q.elim
  | some e' =>
    rw [hd] at q
    exact ⟨L0, io0, H0, L, io, e, S, d, e', fr, r, hd, fun g' fr' _ _ => q g' H1 L io (Stw.refl ..) fr'⟩
/-- x, y = e1, e2 -/
def sPar (i j : Nat) (fa : DA) : DS := sBind fa fun e l S => match l with
  | [d1, d2] => .nx ((e.set i (.va d1)).set j (.va d2)) S
  | _ => .no
theorem qs_par {y : Str} {px py pt : Pos} {kt k2 pt2} {fa : DA} (hc : X.calm = true) (hN : X.N.Nodup) (i j : Nat) (ha : QA X W [a, b] fa) (hi : X.N[i]? = some x := by rfl) (hj : X.N[j]? = some y := by rfl) (hij : i ≠ j := by decide)
    (hx : X.env.scope.names.lookup x = some .local := by rfl) (hy : X.env.scope.names.lookup y = some .local := by rfl)
    (hw : swappedStores [.Tuple [.Name x px, .Name y py] kt pt] (.Tuple [a, b] k2 pt2) X.env = pure (some [x, y]) := by rfl)
    (hs : swapsWithSole [.Tuple [.Name x px, .Name y py] kt pt] (.Tuple [a, b] k2 pt2) pos.line X.env = pure false := by rfl) :
    QS X W (.Assign [.Tuple [.Name x px, .Name y py] kt pt] (.Tuple [a, b] k2 pt2) pos) (sPar i j fa) := ps_imp (ps_par hc hN hi hj hij hx hy ha hw hs) fun D g H h => by
  refine rds_bind (R := VRs X.K) (k := fun e l S => match l with
    | [d1, d2] => .nx ((e.set i (.va d1)).set j (.va d2)) S
    | _ => .no) h fun L0 io0 H0 L io H1 e S d v fr r q => ?_
  cases r with
  | nil => exact q.elim
  | cons r1 t1 =>
    cases t1 with
    | nil => exact q.elim
    | cons r2 t2 =>
      cases t2 with
      | cons => exact q.elim
      | nil => exact ⟨_, _, rfl, q _ H1 L io (Stw.refl ..) ((fr.setV i r1).setV j r2)⟩
def sPar3 (i j k : Nat) (fa : DA) : DS := sBind fa fun e l S => match l with
  | [d1, d2, d3] => .nx (((e.set i (.va d1)).set j (.va d2)).set k (.va d3)) S
  | _ => .no
theorem qs_par3 {y z : Str} {px py pz pt : Pos} {kt k2 pt2} {fa : DA} (hc : X.calm = true) (hN : X.N.Nodup) (i j k : Nat) (ha : QA X W [a, b, c] fa) (hi : X.N[i]? = some x := by rfl) (hj : X.N[j]? = some y := by rfl) (hk : X.N[k]? = some z := by rfl) (hij : i ≠ j := by decide) (hik : i ≠ k := by decide) (hjk : j ≠ k := by decide)
    (hx : X.env.scope.names.lookup x = some .local := by rfl) (hy : X.env.scope.names.lookup y = some .local := by rfl) (hz : X.env.scope.names.lookup z = some .local := by rfl)
    (hw : swappedStores [.Tuple [.Name x px, .Name y py, .Name z pz] kt pt] (.Tuple [a, b, c] k2 pt2) X.env = pure (some [x, y, z]) := by rfl)
    (hs : swapsWithSole [.Tuple [.Name x px, .Name y py, .Name z pz] kt pt] (.Tuple [a, b, c] k2 pt2) pos.line X.env = pure false := by rfl) :
    QS X W (.Assign [.Tuple [.Name x px, .Name y py, .Name z pz] kt pt] (.Tuple [a, b, c] k2 pt2) pos) (sPar3 i j k fa) := ps_imp (ps_par3 hc hN hi hj hk hij hik hjk hx hy hz ha hw hs) fun D g H h => by
  refine rds_bind (R := VRs X.K) (k := fun e l S => match l with
    | [d1, d2, d3] => .nx (((e.set i (.va d1)).set j (.va d2)).set k (.va d3)) S
    | _ => .no) h fun L0 io0 H0 L io H1 e S d v fr r q => ?_
  cases r with
  | nil => exact q.elim
  | cons r1 t1 =>
    cases t1 with
    | nil => exact q.elim
    | cons r2 t2 =>
      cases t2 with
      | nil => exact q.elim
      | cons r3 t3 =>
        cases t3 with
        | cons => exact q.elim
        | nil => exact ⟨_, _, _, rfl, q _ H1 L io (Stw.refl ..) (((fr.setV i r1).setV j r2).setV k r3)⟩
/-- x = a new list: the slot's own -/
def sOwn (i : Nat) (f : DL) : DS := sBind f fun e l S => .nx (e.set i (.ow l)) S
/-- .. a handle -/
def sNew (i : Nat) (f : DL) : DS := sBind f fun e l S => .nx (e.set i (.va (.hdl S.length))) (S ++ [.lst l])
end
/-- a new list becomes a handle's -/
theorem SR.addO {K : PySem.W.Frag} {L : Addr → Prop} {io : List Addr} {H : Hp} {S : Sto} {p : Addr} {ob : Ob} (sr : SR K L io H S) (lp : L p) (np : p ∉ io) (h1 : ObR K L io H p ob) : SR K L (io ++ [p]) H (S ++ [ob]) := by
  have on : ∀ v d, VR K L io H v d → VR K L (io ++ [p]) H v d := fun v d r => VR.on (fun _ _ h => io_keep h) (fun a o e n => ⟨e, n⟩) r
  refine ⟨by rw [List.length_append, List.length_append, sr.len]; rfl, ?_, fun a h => ?_, sr.dom, fun k a o h3 h4 => ?_⟩
  · rw [List.nodup_append]
    exact ⟨sr.nd, by simp, fun a ha b hb => by simp at hb; subst hb; exact fun z => np (by rw [← z]; exact ha)⟩
  · rcases List.mem_append.mp h with z | z
    · exact sr.sub a z
    · simp at z; subst z; exact lp
  · by_cases hk : k < io.length
    · rw [List.getElem?_append_left hk] at h3
      rw [List.getElem?_append_left (by rw [← sr.len]; exact hk)] at h4
      exact (sr.obj k a o h3 h4).mono (fun _ e => e) on
    · have hk2 : io.length ≤ k := by omega
      rw [List.getElem?_append_right hk2] at h3
      rw [List.getElem?_append_right (by rw [← sr.len]; exact hk2), ← sr.len] at h4
      cases hd : k - io.length with
      | zero =>
        rw [hd] at h3 h4
        cases h3; cases h4
        exact h1.mono (fun _ e => e) on
      | succ n => rw [hd] at h3; simp at h3
theorem SR.addH {K : PySem.W.Frag} {L : Addr → Prop} {io : List Addr} {H : Hp} {S : Sto} {p : Addr} {xs : List V} {l : List Dv} (sr : SR K L io H S) (lp : L p) (np : p ∉ io) (h1 : H p = some (.lst xs)) (h2 : VRs K L io H xs l) : SR K L (io ++ [p]) H (S ++ [.lst l]) := sr.addO lp np ⟨xs, h1, h2⟩
section
variable {X : Cx} {W : WX} {pos : Pos} {a : Expr} {f : DL} {x : Str}
theorem FR.setH {K : PySem.W.Frag} {L0 L L1 : Addr → Prop} {io0 io io1 : List Addr} {H0 H H1 : Hp} {g : St} {e : Env} {S S1 : Sto} (fr : FR K L0 io0 H0 L io H g e S) (s : Stp L io H L1 io1 H1) (sr : SR K L1 io1 H1 S1) {v : V} {l : List Dv} (n : NewL K H L1 io1 H1 v l) :
    ∃ io2, Stp L io H L1 io2 H1 ∧ Stw L1 io1 H1 L1 io2 H1 ∧ SR K L1 io2 H1 (S1 ++ [.lst l]) ∧ VR K L1 io2 H1 v (.hdl S1.length) := by
  obtain ⟨p, xs, rfl, hp, lp, np, h1, h2⟩ := n
  have sr2 := sr.addH lp np h1 h2
  refine ⟨io1 ++ [p], ⟨?_, fun x hx => ?_, s.new, s.keep, s.up⟩, ⟨⟨[p], rfl⟩, fun _ h => .inl h, fun _ _ h _ => h⟩, sr2, .hdl (by rw [← sr.len]; simp)⟩
  · obtain ⟨m, rfl⟩ := s.pre
    exact ⟨m ++ [p], by simp⟩
  · rcases List.mem_append.mp hx with z | z
    · exact s.hn x z
    · simp at z; subst z; exact .inr hp
/-- a new list as a handle, as a value -/
def eNew (f : DL) : DE := fun e S => bnd (f e S) fun l S' => .ok (.hdl S'.length) (S' ++ [.lst l])
theorem qe_new (h : QF X W a f) : QE X W a (eNew f) := pe_imp h fun g H Q q => by
  obtain ⟨L0, io0, H0, L, io, e, S, fr, q⟩ := q
  refine ⟨L0, io0, H0, L, io, e, S, fr, ?_⟩
  have q : Fin X.K W (VR X.K) g L io H Q (bnd (f e S) fun l S' => .ok (.hdl S'.length) (S' ++ [.lst l])) := q
  cases hf : f e S with
  | no => rw [hf] at q; exact q
  | ex c fs S' => rw [hf] at q; exact q
  | ok l S' =>
    rw [hf] at q
    intro v H' L' io' s sr n
    obtain ⟨io2, s2, w2, sr2, r2⟩ := fr.setH s sr n
    exact q v H' L' io2 s2 sr2 r2
end
/-- what is a slot's own is own no more -/
def frzO : Ob → Dv
  | .lst l => .lst l
  | .dct l => .dic l
  | .ins c fs => .obj c fs
  | .ext _ _ _ => .non
def sFrz (i : Nat) : DS := fun e S => match e[i]? with
  | some (.own o) => .nx (e.set i (.va (frzO o))) S
  | _ => .no
theorem vrp_of {K : PySem.W.Frag} {L : Addr → Prop} {io : List Addr} {H : Hp} : ∀ {kvs : List (Key × V)} {l : List (Key × Dv)}, PairR (VR K L io H) kvs l → VRp K L io H kvs l
  | _, _, .nil => .nil
  | (k, v) :: _, (k', d) :: _, .cons ⟨h1, h2⟩ t => by
    cases (show k = k' from h1)
    exact .cons h2 (vrp_of t)
theorem vrf_of {K : PySem.W.Frag} {L : Addr → Prop} {io : List Addr} {H : Hp} : ∀ {kvs : List (Str × V)} {l : List (Str × Dv)}, PairR (VR K L io H) kvs l → VRf K L io H kvs l
  | _, _, .nil => .nil
  | (k, v) :: _, (k', d) :: _, .cons ⟨h1, h2⟩ t => by
    cases (show k = k' from h1)
    exact .cons h2 (vrf_of t)
theorem of_vrf {K : PySem.W.Frag} {L : Addr → Prop} {io : List Addr} {H : Hp} : ∀ {kvs : List (Str × V)} {l : List (Str × Dv)}, VRf K L io H kvs l → PairR (VR K L io H) kvs l
  | _, _, .nil => .nil
  | _, _, .cons h t => .cons ⟨rfl, h⟩ (of_vrf t)
theorem ObR.frz {K : PySem.W.Frag} {L : Addr → Prop} {io : List Addr} {H : Hp} {p : Addr} {o : Ob} (h : ObR K L io H p o) (n : ¬ L p) (np : p ∉ io) : VR K L io H (.ref p) (frzO o) := by
  cases o with
  | lst l => obtain ⟨xs, h1, h2⟩ := h; exact .lst n h1 h2
  | dct l => obtain ⟨xs, h1, h2⟩ := h; exact .dic n (.inl h1) (vrp_of h2)
  | ins c fs => obtain ⟨dx, xs, h1, h2⟩ := h; exact .obj n h1 (vrf_of h2)
  | ext => exact absurd h.1 np
theorem FR.frz {K : PySem.W.Frag} {L0 L : Addr → Prop} {io0 io : List Addr} {H0 H : Hp} {g : St} {e : Env} {S : Sto} (fr : FR K L0 io0 H0 L io H g e S) {i : Nat} {o : Ob} (h : e[i]? = some (.own o)) :
    ∃ p, g[i]? = some (some (.ref p)) ∧ FR K L0 io0 H0 (Lz L p) io H g (e.set i (.va (frzO o))) S ∧ Stw L io H (Lz L p) io H := by
  obtain ⟨p, h1, h2, h3, h4, h5⟩ := fr.own i o h
  have hl : ∀ a, Lz L p a → L a := fun a z => z.1
  have on : ∀ v d, VR K L io H v d → VR K (Lz L p) io H v d := fun v d r => r.less hl
  have hi : i < e.length := (List.getElem?_eq_some_iff.mp h).1
  have ne : ∀ j q, j ≠ i → (∀ d, e[j]? ≠ some (.va d)) → e[j]? ≠ some .no → g[j]? = some (some (.ref q)) → q ≠ p := fun j q hj v1 v2 hg z => by
    subst z
    exact fr.inj i j q (fun z => hj z.symm) (by rw [h]; intro d z; cases z) v1 (by rw [h]; intro z; cases z) v2 h1 hg
  refine ⟨p, h1, ⟨fr.st.less hl fun a ha => ⟨fr.st.sub a ha, fun z => h3 (by rw [← z]; exact ha)⟩, by rw [List.length_set]; exact fr.len, fun j d hj => ?_, fun j m hj => ?_, fun j k q hjk v1 v2 n1 n2 g1 g2 => ?_, ⟨fr.en.pre, fr.en.hn, fun a z => fr.en.new a z.1, fr.en.keep, fun a z => ⟨fr.en.up a z, fun e => ?_⟩⟩, fr.sub0, fr.dom0⟩, ⟨⟨[], by simp⟩, fun a z => .inl z.1, fun _ _ e _ => e⟩⟩
  · rcases set_get hj with ⟨rfl, e1, e2⟩ | ⟨e1, e2⟩
    · cases e1
      exact ⟨.ref p, h1, (ObR.mono (o := o) h5 (fun _ h => h) on).frz (fun z => z.2 rfl) h3⟩
    · obtain ⟨v, r1, r2⟩ := fr.va j d e2
      exact ⟨v, r1, on _ _ r2⟩
  · rcases set_get hj with ⟨rfl, e1, e2⟩ | ⟨e1, e2⟩
    · cases e1
    · obtain ⟨q, r1, r2, r3, r4, r5⟩ := fr.own j m e2
      exact ⟨q, r1, ⟨r2, ne j q e1 (by rw [e2]; intro d z; cases z) (by rw [e2]; intro z; cases z) r1⟩, r3, r4, ObR.mono (o := m) r5 (fun _ h => h) on⟩
  · have hj : j ≠ i := fun z => by subst z; exact v1 _ (set_at hi)
    have hk : k ≠ i := fun z => by subst z; exact v2 _ (set_at hi)
    rw [set_ne hj] at v1 n1
    rw [set_ne hk] at v2 n2
    exact fr.inj j k q hjk v1 v2 n1 n2 g1 g2
  · rw [← e] at h4
    exact fr.dom0 a z h4
end DL
namespace DL
open PySem L2
def forR (gd : DG) (body : DS) : List Dv → Env → Sto → Out
  | [], e, S => .nx e S
  | d :: ds, e, S => match gd d e with
    | none => .no
    | some e' => match body e' S with
      | .nx e1 S1 => forR gd body ds e1 S1
      | .ct e1 S1 => forR gd body ds e1 S1
      | .bk e1 S1 => .nx e1 S1
      | o => o
def sFor (fi : DL) (gd : DG) (body : DS) : DS := sBind fi fun e ds S => forR gd body ds e S
theorem rds_bindI {K : PySem.W.Frag} {W : WX} {f : DL} {k : Env → List Dv → Sto → Out} {D : Ends} {g : St} {H : Hp} {P : It → Hp → Prop} (h : rds K W (sBind f k) D g H)
    (n : ∀ (L0 : Addr → Prop) (io0 : List Addr) (H0 : Hp) (L : Addr → Prop) (io : List Addr) (H1 : Hp) (e : Env) (S : Sto) (a : List Dv) (J : It), FR K L0 io0 H0 L io H1 g e S → WalkR K L io H1 J a → outR K W L0 io0 H0 D L io H1 (k e a S) → P J H1) : rdi K W f g H P := by
  obtain ⟨L0, io0, H0, L, io, e, S, fr, h⟩ := h
  unfold sBind at h
  refine ⟨L0, io0, H0, L, io, e, S, fr, ?_⟩
  cases hf : f e S with
  | ok a S1 =>
    rw [hf] at h
    intro v H1 L1 io1 s1 sr1 r1
    exact n L0 io0 H0 L1 io1 H1 e S1 a v (fr.step s1 sr1) r1 (outR.later h (s1.stw fr.st.sub))
  | ex c fs S1 =>
    rw [hf] at h
    exact fun x H' L' io' s sr r => h x g H' L' io' (s.stw fr.st.sub) (fr.step s sr) r
  | no => rw [hf] at h; exact h
theorem rd_for {K : PySem.W.Frag} {W : WX} {fi : DL} {gd : DG} {body : DS} {vs : List Nat} {D : Ends} {g : St} {H : Hp} (h : rds K W (sFor fi gd body) D g H) : tFor (rdi K W fi) (tgR K gd vs) (rds K W body) D g H := by
  refine rds_bindI (k := fun e ds S => forR gd body ds e S) h fun L0 io0 H0 L1 io1 H1 e S ds J fr wk q => ?_
  refine ⟨fun i m g' H' => m = ds.length - i ∧ i ≤ ds.length ∧ ∃ (L' : Addr → Prop) (io' : List Addr) (e' : Env) (S' : Sto), FR K L0 io0 H0 L' io' H' g' e' S' ∧ Stw L1 io1 H1 L' io' H' ∧ outR K W L0 io0 H0 D L' io' H' (forR gd body (ds.drop i) e' S'),
    ⟨ds.length, by simp, Nat.zero_le _, L1, io1, e, S, fr, Stw.refl .., by rw [List.drop_zero]; exact q⟩, ?_⟩
  rintro i m g' H' ⟨rfl, hi, L', io', e', S', fr', sw, q⟩
  by_cases hlt : i < ds.length
  · obtain ⟨d, hd⟩ : ∃ d, ds[i]? = some d := ⟨_, List.getElem?_eq_getElem hlt⟩
    have hdrop : ds.drop i = d :: ds.drop (i + 1) := by
      rw [List.drop_eq_getElem_cons hlt]
      rw [List.getElem?_eq_getElem hlt] at hd
      cases hd
      rfl
    rw [hdrop] at q
    simp only [forR] at q
    obtain ⟨hgo, hy⟩ := wk.go L' io' H' S' i d sw fr'.st hd
    refine .inr ⟨hgo, fun g'' H'' => ∃ m', m' < ds.length - i ∧ (m' = ds.length - (i + 1) ∧ i + 1 ≤ ds.length ∧ ∃ (L' : Addr → Prop) (io' : List Addr) (e' : Env) (S' : Sto), FR K L0 io0 H0 L' io' H'' g'' e' S' ∧ Stw L1 io1 H1 L' io' H'' ∧ outR K W L0 io0 H0 D L' io' H'' (forR gd body (ds.drop (i + 1)) e' S')), fun _ _ h => h, fun x H2 y => ?_⟩
    obtain ⟨sr2, sp2, r2⟩ := hy x H2 y
    have fr2 := fr'.step sp2 sr2
    have sw2 := sw.trans (sp2.stw fr'.st.sub)
    cases hg : gd d e' with
    | none => rw [hg] at q; exact q.elim
    | some e2 =>
      rw [hg] at q
      simp only at q
      refine ⟨L0, io0, H0, L', io', e', S', d, e2, fr2, r2, hg, fun g3 fr3 _ _ => ⟨L0, io0, H0, L', io', e2, S', fr3, ?_⟩⟩
      cases hb : body e2 S' with
      | nx e1 S1 =>
        rw [hb] at q
        exact fun g4 H4 L4 io4 s4 fr4 => ⟨_, by omega, rfl, hlt, L4, io4, e1, S1, fr4, sw2.trans s4, outR.later q ((sp2.stw fr'.st.sub).trans s4)⟩
      | ct e1 S1 =>
        rw [hb] at q
        exact fun g4 H4 L4 io4 s4 fr4 => ⟨_, by omega, rfl, hlt, L4, io4, e1, S1, fr4, sw2.trans s4, outR.later q ((sp2.stw fr'.st.sub).trans s4)⟩
      | bk e1 S1 =>
        rw [hb] at q
        exact fun g4 H4 L4 io4 s4 fr4 => q g4 H4 L4 io4 ((sp2.stw fr'.st.sub).trans s4) fr4
      | rt d1 S1 => rw [hb] at q; exact q
      | ex c fs e1 S1 =>
        rw [hb] at q
        exact fun x g4 H4 L4 io4 s4 fr4 r4 => q x g4 H4 L4 io4 ((sp2.stw fr'.st.sub).trans s4) fr4 r4
      | no => rw [hb] at q; exact q
  · have ei : i = ds.length := by omega
    subst ei
    rw [List.drop_length] at q
    exact .inl ⟨wk.stop L' io' H' sw, q g' H' L' io' (Stw.refl ..) fr'⟩
section
variable {X : Cx} {W : WX} {pos : Pos} {tg iter : Expr} {body : List Stmt} {fi : DL} {gd : DG} {fb : DS} {vs : List Nat}
theorem qs_for (hp : PassesOwn (model X.prog X.w) X.A X.env X.xe) (hc : X.calm = true) (hi : QI X W tg iter fi) (hg : QG X tg gd vs) (hb : QSs X W body fb) (hs : ∀ x, foldedSetIterable iter X.env x = pure x := by intro _; rfl) : QS X W (.For tg iter body [] pos) (sFor fi gd fb) :=
  ps_imp (ps_for hp hc hi hg.canon hb hs) fun D g H h => rd_for h
/-- a slot's own list is changed -/
theorem FR.ownO {K : PySem.W.Frag} {L0 L : Addr → Prop} {io0 io : List Addr} {H0 H : Hp} {g : St} {e : Env} {S : Sto} (fr : FR K L0 io0 H0 L io H g e S) {i : Nat} {o o' : Ob} {p : Addr} {u : HO} (h : e[i]? = some (.own o)) (hg : g[i]? = some (some (.ref p))) (lp : L p) (np : p ∉ io) (h0 : H0 p = none) (r : ObR K L io (upd H p u) p o') :
    FR K L0 io0 H0 L io (upd H p u) g (e.set i (.own o')) S := by
  have hi : i < e.length := (List.getElem?_eq_some_iff.mp h).1
  have eg : g.set i (some (.ref p)) = g := by
    apply List.ext_getElem?
    intro k
    rw [List.getElem?_set]
    by_cases hk : i = k
    · subst hk
      rw [if_pos rfl, if_pos (by rw [fr.len]; exact hi), hg]
    · rw [if_neg hk]
  have f1 := (fr.setN i (some (.ref p))).mutD (o := u) lp np h0 fun j q v1 v2 v3 hj => by
    have hji : j ≠ i := fun z => by subst z; exact v2 (set_at hi)
    rw [set_ne hji] at v1 v2 v3 hj
    intro z
    subst z
    exact fr.inj i j q (fun z => hji z.symm) (by rw [h]; intro d z; cases z) v1 (by rw [h]; intro z; cases z) v2 hg hj
  have f2 := f1.setS i (x := some (.ref p)) (s := .own o') (fun d z => by cases z) (fun l2 z => by cases z; exact ⟨p, rfl, lp, np, h0, r⟩) fun q _ _ hq j hj v1 v2 hgj => by
    cases hq
    rw [set_ne hj] at v1 v2 hgj
    exact fr.inj i j p (fun z => hj z.symm) (by rw [h]; intro d z; cases z) v1 (by rw [h]; intro z; cases z) v2 hg hgj
  rw [List.set_set, List.set_set, eg] at f2
  exact f2
theorem FR.ownL {K : PySem.W.Frag} {L0 L : Addr → Prop} {io0 io : List Addr} {H0 H : Hp} {g : St} {e : Env} {S : Sto} (fr : FR K L0 io0 H0 L io H g e S) {i : Nat} {l l' : List Dv} {p : Addr} {ys : List V} (h : e[i]? = some (.ow l)) (hg : g[i]? = some (some (.ref p))) (lp : L p) (np : p ∉ io) (h0 : H0 p = none) (r : VRs K L io H ys l') :
    FR K L0 io0 H0 L io (upd H p (.lst ys)) g (e.set i (.ow l')) S := fr.ownO h hg lp np h0 ⟨ys, upd_same, r.mut lp⟩
end
/-- a list's method by data: the list, the arguments; the list behind it, the answer -/
def OwnS (K : PySem.W.Frag) (r : V → List V → Hp → VK → Prop) (h : List Dv → List Dv → Option (List Dv × Dv)) : Prop :=
  ∀ (L : Addr → Prop) (io : List Addr) (H : Hp) (S : Sto) (p : Addr) (xs : List V) (l : List Dv) (vs : List V) (as l' : List Dv) (d : Dv) (Q : VK), SR K L io H S → H p = some (.lst xs) → L p → VRs K L io H xs l → VRs K L io H vs as → h l as = some (l', d) →
    (∀ ys v, VRs K L io H ys l' → VR K L io H v d → Q v (upd H p (.lst ys))) → r (.ref p) vs H Q
def sOwnM (h : List Dv → List Dv → Option (List Dv × Dv)) (i : Nat) (fa : DA) : DS := fun e S => match e[i]? with
  | some (.own (.lst l)) => sBind fa (fun e as S => match h l as with
    | some (l', _) => .nx (e.set i (.ow l')) S
    | none => .no) e S
  | _ => .no
theorem rd_ownM {K : PySem.W.Frag} {W : WX} {r : V → List V → Hp → VK → Prop} {h : List Dv → List Dv → Option (List Dv × Dv)} (hs : OwnS K r h) {fa : DA} {i : Nat} {D : Ends} {g : St} {H : Hp} (q : rds K W (sOwnM h i fa) D g H) : tDrop (tBM K "list" r (tVar i) (rda K W fa)) D g H := by
  obtain ⟨L0, io0, H0, L, io, e, S, fr, q⟩ := q
  unfold sOwnM at q
  cases hi : e[i]? with
  | none => rw [hi] at q; exact q.elim
  | some sl =>
    by_cases hl : ∃ l, sl = .ow l
    · obtain ⟨l, rfl⟩ := hl
      rw [hi] at q
      simp only at q
      obtain ⟨p, xs, h1, h2, h3, h4, h5, h6⟩ := fr.ow i l hi
      refine ⟨.ref p, h1, .inl ⟨rfl, xs, SqL.of h5⟩, ?_⟩
      refine ⟨L0, io0, H0, L, io, e, S, fr, ?_⟩
      simp only [sBind] at q
      cases hf : fa e S with
      | no => rw [hf] at q; exact q
      | ex c fs S1 => rw [hf] at q; exact fun x H' L' io' s sr r => q x g H' L' io' (s.stw fr.st.sub) (fr.step s sr) r
      | ok as S1 =>
        rw [hf] at q
        intro vs H1 L1 io1 s1 sr1 r1
        simp only at q
        cases hh : h l as with
        | none => rw [hh] at q; exact q.elim
        | some z =>
          obtain ⟨l', d⟩ := z
          rw [hh] at q
          have fr1 := fr.step s1 sr1
          have np : p ∉ io1 := fun z => by
            rcases s1.hn p z with q | q
            · exact h3 q
            · rw [q] at h5; cases h5
          refine hs L1 io1 H1 S1 p xs l vs as l' d _ sr1 (s1.keep p _ h5 h3) (s1.up p h2) (h6.step s1 fr.st.sub) r1 hh fun ys v ry rv => ?_
          exact q g _ L1 io1 ((s1.stw fr.st.sub).trans (Stw.mut (s1.up p h2))) (fr1.ownL hi h1 (s1.up p h2) np h4 ry)
    · rw [hi] at q
      rcases sl with _ | _ | (l | _ | _ | _)
      · exact q.elim
      · exact q.elim
      · exact absurd ⟨l, rfl⟩ hl
      · exact q.elim
      · exact q.elim
      · exact q.elim
theorem SR.setH {K : PySem.W.Frag} {L : Addr → Prop} {io : List Addr} {H : Hp} {S : Sto} {k : Nat} {a : Addr} {ob : Ob} {o : HO} (sr : SR K L io H S) (hk : io[k]? = some a) (r : ObR K L io (upd H a o) a ob) : SR K L io (upd H a o) (S.set k ob) := by
  have la : L a := sr.sub a (List.mem_of_getElem? hk)
  refine ⟨by rw [List.length_set]; exact sr.len, sr.nd, sr.sub, fun b hb => ?_, fun j b u h1 h2 => ?_⟩
  · by_cases e : b = a
    · rw [e, upd_same]; exact fun z => nomatch z
    · rw [upd_ne e]; exact sr.dom b hb
  · rcases set_get h2 with ⟨rfl, rfl, _⟩ | ⟨e1, e2⟩
    · rw [hk] at h1; cases h1; exact r
    · refine (sr.obj j b u h1 e2).mono (fun z ez => ?_) fun v d rv => rv.mut la
      rw [upd_ne (fun z => e1 ?_)]
      · exact ez
      · rw [← z] at hk
        obtain ⟨q1, q2⟩ := List.getElem?_eq_some_iff.mp h1
        obtain ⟨q3, q4⟩ := List.getElem?_eq_some_iff.mp hk
        exact (List.getElem_inj sr.nd).mp (q2.trans q4.symm)
theorem Stp.mutH {L : Addr → Prop} {io : List Addr} {H : Hp} {a : Addr} {o : HO} (h : a ∈ io) : Stp L io H L io (upd H a o) :=
  ⟨⟨[], by simp⟩, fun _ h => .inl h, fun _ h => .inl h, fun b u e n => by rw [upd_ne (fun z => n (by rw [z]; exact h))]; exact e, fun _ h => h⟩
def hdlM (h : List Dv → List Dv → Option (List Dv × Dv)) (S : Sto) (o : Dv) (as : List Dv) : Res Dv := match o with
  | .hdl k => match S[k]? with
    | some (.lst l) => match h l as with
      | some (l', d) => .ok d (S.set k (.lst l'))
      | none => .no
    | _ => .no
  | _ => .no
def lstHd (S : Sto) : Dv → Bool
  | .hdl k => match S[k]? with
    | some (.lst _) => true
    | _ => false
  | _ => false
def eHdlM (h : List Dv → List Dv → Option (List Dv × Dv)) (fo : DE) (fa : DA) : DE := fun e S => bnd (fo e S) fun o S1 => if lstHd S1 o then bnd (fa e S1) fun as S2 => hdlM h S2 o as else .no
/-- append, extend, insert, reverse -/
def appD (l as : List Dv) : Option (List Dv × Dv) := match as with
  | [d] => if l.length < sizeLine then some (l ++ [d], .non) else none
  | _ => none
section
variable {X : Cx} {W : WX} {pos apos cpos p1 : Pos} {a o e : Expr} {es : List Expr} {f fo fv : DE} {fa : DA} {x name : Str} {id : String} {r : V → List V → Hp → VK → Prop} {h : List Dv → List Dv → Option (List Dv × Dv)}
/-- found.m(..), found the slot's own -/
theorem qs_ownM (i : Nat) (slot : Slot "list" name id) (hty : typeOf (.builtin id) = pure (.type "method_descriptor")) (hm : MtR X id r) (hs : OwnS X.K r h) (ha : QA X W (e :: es) fa)
    (hN : X.N[i]? = some x := by rfl) (hv : Vis X.env.scope x := by first | exact Or.inl rfl | exact Or.inr (Or.inl rfl) | exact Or.inr (Or.inr rfl))
    (hd : (x == ("__debug__" : Str)) = false := by decide) (hcd : (x == ("__classdict__" : Str)) = false := by decide)
    (hbase : attributeBase (.Name x p1) name X.env (eval (.Name x p1) X.env) = eval (.Name x p1) X.env := by rfl)
    (hfew : ((backTo cpos (starEach (e :: es) X.env)).all (fun x => !x.1) && (backToKw cpos (keywordEach [] X.env)).all (fun x => x.1.isSome)
      && decide ((e :: es).length + ([] : List Keyword).length + (if ([] : List Keyword).isEmpty then 0 else 1) < 30)) = true := by rfl)
    (hline : (apos.endLine == cpos.line) = true := by rfl) (hst : starEach (e :: es) X.env = (false, eval e X.env) :: starEach es X.env := by rfl) (hplain : (backTo cpos (starEach es X.env)).any (·.1) = false := by rfl)
    (hsw : swapsWith (.Call (.Attribute (.Name x p1) name apos) (e :: es) [] cpos) none pos.line X.env = pure false := by rfl) :
    QS X W (.Expr (.Call (.Attribute (.Name x p1) name apos) (e :: es) [] cpos) pos) (sOwnM h i fa) := ps_imp (ps_expr (pe_bm PySem.F.plainAttrs_list slot hty hm (pe_var hN hv hd hcd) ha hbase hfew hline hst hplain) hsw) fun D g H q => rd_ownM hs q
end
end DL
namespace DL
open PySem L2
theorem outR.bind {α β : Type} {K : PySem.W.Frag} {W : WX} {R : (Addr → Prop) → List Addr → Hp → β → α → Prop} {f : Env → Sto → Res α} {k : Env → α → Sto → Out} {D : Ends} {g : St} {L0 L : Addr → Prop} {io0 io : List Addr} {H0 H : Hp} {e : Env} {S : Sto} {P : β → Hp → Prop}
    (fr : FR K L0 io0 H0 L io H g e S) (h : outR K W L0 io0 H0 D L io H (sBind f k e S))
    (n : ∀ (L1 : Addr → Prop) (io1 : List Addr) (H1 : Hp) (S1 : Sto) (a : α) (v : β), Stp L io H L1 io1 H1 → FR K L0 io0 H0 L1 io1 H1 g e S1 → R L1 io1 H1 v a → outR K W L0 io0 H0 D L1 io1 H1 (k e a S1) → P v H1) : Rdg K W R f g H P := by
  unfold sBind at h
  refine ⟨L0, io0, H0, L, io, e, S, fr, ?_⟩
  cases hf : f e S with
  | ok a S1 =>
    rw [hf] at h
    intro v H1 L1 io1 s1 sr1 r1
    exact n L1 io1 H1 S1 a v s1 (fr.step s1 sr1) r1 (outR.later h (s1.stw fr.st.sub))
  | ex c fs S1 =>
    rw [hf] at h
    exact fun x H' L' io' s sr r => h x g H' L' io' (s.stw fr.st.sub) (fr.step s sr) r
  | no => rw [hf] at h; exact h
def setD (S : Sto) (o i v : Dv) : Option Sto := match o, i with
  | .hdl k, .int n => match S[k]? with
    | some (.lst l) => match ixN l.length n with
      | some j => some (S.set k (.lst (l.set j v)))
      | none => none
    | _ => none
  | _, _ => none
theorem setD_ok {K : PySem.W.Frag} {L : Addr → Prop} {io : List Addr} {H : Hp} {S S' : Sto} {o i v : Dv} {vo vi vv : V} (sr : SR K L io H S) (ro : VR K L io H vo o) (ri : VR K L io H vi i) (rv : VR K L io H vv v) (h : setD S o i v = some S') {Q : Hp → Prop}
    (q : ∀ H', Stp L io H L io H' → SR K L io H' S' → Q H') : rSetL vo vi vv H Q := by
  cases o with
  | hdl k =>
    cases i with
    | int n =>
      simp only [setD] at h
      cases hS : S[k]? with
      | none => rw [hS] at h; cases h
      | some ob =>
        rw [hS] at h
        cases ob with
        | lst l =>
          simp only at h
          cases hj : ixN l.length n with
          | none => rw [hj] at h; cases h
          | some j =>
            rw [hj] at h
            cases h
            cases ri
            cases ro with
            | hdl hk =>
              rename_i a
              obtain ⟨xs, e1, r1⟩ := sr.obj k a _ hk hS
              have ma : a ∈ io := List.mem_of_getElem? hk
              refine ⟨a, xs, n, j, rfl, rfl, e1, by rw [r1.len]; exact hj, ?_⟩
              exact q _ (Stp.mutH ma) (sr.setH hk ⟨_, upd_same, (VRs.set rv j r1).mut (sr.sub a ma)⟩)
        | _ => cases h
    | _ => cases h
  | _ => cases h
def sSetI (fo fi fv : DE) : DS := sBind fv fun e v S1 => sBind fo (fun e o S2 => sBind fi (fun e i S3 => match setD S3 o i v with
  | some S4 => .nx e S4
  | none => .no) e S2) e S1
section
variable {X : Cx} {W : WX} {pos tpos : Pos} {a o i : Expr} {fo fi fv : DE}
theorem qs_setI (ho : QE X W o fo) (hi : QE X W i fi) (hv : QE X W a fv)
    (hp : ∀ {to ti tv}, PE X o to → PE X i ti → PE X a tv → PS X (.Assign [.Subscript o i tpos] a pos) (tAsg tv (gSub to ti rSetL)) := by intro _ _ _ h1 h2 h3; exact ps_asg h3 (pg_sub h1 h2 set_list)) : QS X W (.Assign [.Subscript o i tpos] a pos) (sSetI fo fi fv) := ps_imp (hp ho hi hv) fun D g H h => by
  refine rds_bind (R := VR X.K) (k := fun e v S1 => sBind fo (fun e o S2 => sBind fi (fun e i S3 => match setD S3 o i v with
    | some S4 => .nx e S4
    | none => .no) e S2) e S1) h fun L0 io0 H0 L io H1 e S d v fr rv q => ?_
  refine outR.bind (R := VR X.K) (k := fun e o S2 => sBind fi (fun e i S3 => match setD S3 o i d with
    | some S4 => .nx e S4
    | none => .no) e S2) fr q fun L2 io2 H2 S2 od vo s2 fr2 ro q => ?_
  refine outR.bind (R := VR X.K) (k := fun e i S3 => match setD S3 od i d with
    | some S4 => .nx e S4
    | none => .no) fr2 q fun L3 io3 H3 S3 id vi s3 fr3 ri q => ?_
  cases hS : setD S3 od id d with
  | none => rw [hS] at q; exact q.elim
  | some S4 =>
    rw [hS] at q
    exact setD_ok fr3.st (ro.step s3 fr2.st.sub) ri ((rv.step s2 fr.st.sub).step s3 fr2.st.sub) hS fun H' s sr => q g H' L3 io3 (s.stw fr3.st.sub) (fr3.step s sr)
theorem get_list : PGet X (rIxL X.K) := by
  intro pins s g H x y v u Q I rx ry h
  obtain ⟨p, xs, i, z, rfl, rfl, hq, he, q⟩ := h
  cases rx
  obtain ⟨t, rfl⟩ := ry
  obtain ⟨its, r, pl, hz⟩ := I.list hq
  obtain ⟨j, h1, h2, h3, h4, h5⟩ := atI_get he
  obtain ⟨w, ew, rw'⟩ := r.get h2
  have hl := r.length
  have hn := line63
  have fin : EP X pins g Q w s := ⟨z, H, I, rw', q⟩
  by_cases h0 : 0 ≤ i
  · have hj : i.toNat = j := by
      rw [seqIndex_of h0 h5] at h1
      exact Option.some.inj h1
    exact wpAny_getItem_list pl.isList h0 (by omega) (by rw [hj]; simpa using ew) fin
  · have hj : (i + (its.toArray.size : Int)).toNat = j := by
      rw [seqIndex_neg (by omega) h4] at h1
      rw [List.size_toArray, ← hl]
      exact Option.some.inj h1
    exact wpAny_getItem_list_neg pl.isList (by omega) (by rw [List.size_toArray] <;> omega) (by omega) (by rw [hj]; simpa using ew) fin
def ixL (S : Sto) (d i : Dv) : Option Dv := match i with
  | .int i => (asL S d).bind fun l => atI l i
  | _ => none
def addI : Dv → Dv → Option Dv := iop fun i j => some (.int (i + j))
def subI : Dv → Dv → Option Dv := iop fun i j => some (.int (i - j))
def sAugI (op : Dv → Dv → Option Dv) (fo fi fv : DE) : DS := sBind fo fun e o S1 => sBind fi (fun e i S2 => match ixL S2 o i with
  | some x => sBind fv (fun e y S3 => match op x y with
    | some z => (match setD S3 o i z with
      | some S4 => .nx e S4
      | none => .no)
    | none => .no) e S2
  | none => .no) e S1
def IpS (K : PySem.W.Frag) (t : TIp) (op : Dv → Dv → Option Dv) : Prop := ∀ L io H x y a b d (Q : VK), VR K L io H x a → VR K L io H y b → op a b = some d → (∀ v, VR K L io H v d → Q v H) → t x y H Q
theorem ips_add {K : PySem.W.Frag} : IpS K (ipI fun i j => i + j) addI := by
  intro L io H x y a b d Q ra rb e q
  cases ra with
  | int i =>
    cases rb with
    | int j => cases e; exact ⟨i, j, rfl, rfl, q _ (.int _)⟩
    | _ => cases e
  | _ => cases e
theorem qs_augI {op : Operator} {tip : TIp} {od : Dv → Dv → Option Dv} (hop : PIp X op tip) (hod : IpS X.K tip od) (ho : QE X W o fo) (hi : QE X W i fi) (hv : QE X W a fv)
    (ha : ∀ ov iv new, augStore i ov iv new = (do holding [new, ov, iv] (setItem ov iv new); release [new, ov, iv] []; pure .next) := by intros; rfl) : QS X W (.AugAssign (.Subscript o i tpos) op a pos) (sAugI od fo fi fv) := ps_imp (ps_augS ho hi get_list hv hop set_list ha) fun D g H h => by
  refine rds_bind (R := VR X.K) (k := fun e o S1 => sBind fi (fun e i S2 => match ixL S2 o i with
    | some x => sBind fv (fun e y S3 => match od x y with
      | some z => (match setD S3 o i z with
        | some S4 => .nx e S4
        | none => .no)
      | none => .no) e S2
    | none => .no) e S1) h fun L0 io0 H0 L io H1 e S d v fr rv q => ?_
  refine outR.bind (R := VR X.K) (k := fun e i S2 => match ixL S2 d i with
    | some x => sBind fv (fun e y S3 => match od x y with
      | some z => (match setD S3 d i z with
        | some S4 => .nx e S4
        | none => .no)
      | none => .no) e S2
    | none => .no) fr q fun L2 io2 H2 S2 di vi s2 fr2 ri q => ?_
  have rv2 := rv.step s2 fr.st.sub
  cases hx : ixL S2 d di with
  | none => rw [hx] at q; exact q.elim
  | some x =>
    rw [hx] at q
    simp only at q
    cases di with
    | int n =>
      simp only [ixL] at hx
      cases hl : asL S2 d with
      | none => rw [hl] at hx; cases hx
      | some l =>
        rw [hl] at hx
        obtain ⟨p, xs, rfl, hs, t⟩ := asL_ok fr2.st rv2 hl
        obtain ⟨w, h3, h4⟩ := t.atI hx
        cases ri
        refine ⟨p, xs, n, w, rfl, rfl, hs, h3, ?_⟩
        refine outR.bind (R := VR X.K) (k := fun e y S3 => match od x y with
          | some z => (match setD S3 d (.int n) z with
            | some S4 => .nx e S4
            | none => .no)
          | none => .no) fr2 q fun L3 io3 H3 S3 dy vy s3 fr3 ry q => ?_
        cases hz : od x dy with
        | none => rw [hz] at q; exact q.elim
        | some z =>
          rw [hz] at q
          simp only at q
          refine hod L3 io3 H3 w vy x dy z _ (h4.step s3 fr2.st.sub) ry hz fun vz rz => ?_
          cases hS : setD S3 d (.int n) z with
          | none => rw [hS] at q; exact q.elim
          | some S4 =>
            rw [hS] at q
            exact setD_ok fr3.st (rv2.step s3 fr2.st.sub) (.int n) rz hS fun H' s sr => q g H' L3 io3 (s.stw fr3.st.sub) (fr3.step s sr)
    | _ => cases hx
/-- x += e -/
def sAug (op : Dv → Dv → Option Dv) (n : Nat) (fv : DE) : DS := fun e S => match e[n]? with
  | some (.va x) => sBind fv (fun e y S1 => match op x y with
    | some z => .nx (e.set n (.va z)) S1
    | none => .no) e S
  | _ => .no
end
def startE (n : Nat) (l : List Dv) : Env := l.map Sl.va ++ List.replicate (n - l.length) .no
def runF (np n : Nat) (fb : DS) : DF := fun S l => if l.length = np then (match fb (startE n l) S with
  | .rt d S' => .ok d S'
  | .nx _ S' => .ok .non S'
  | .ex c fs _ S' => .ex c fs S'
  | _ => .no) else .no
theorem VRs.map_get {K : PySem.W.Frag} {L : Addr → Prop} {io : List Addr} {H : Hp} {vs : List V} {l : List Dv} (r : VRs K L io H vs l) {i : Nat} {d : Dv} {n m : Nat} (h : (l.map Sl.va ++ List.replicate n Sl.no)[i]? = some (.va d)) : ∃ v, (vs.map some ++ List.replicate m (none : Option V))[i]? = some (some v) ∧ VR K L io H v d := by
  by_cases hi : i < l.length
  · rw [List.getElem?_append_left (by rw [List.length_map]; exact hi), List.getElem?_map] at h
    cases q : l[i]? with
    | none => rw [q] at h; cases h
    | some z =>
      rw [q] at h
      cases h
      obtain ⟨v, h1, h2⟩ := r.get q
      refine ⟨v, ?_, h2⟩
      rw [List.getElem?_append_left (by rw [List.length_map, r.len]; exact hi), List.getElem?_map, h1]
      rfl
  · rw [List.getElem?_append_right (by rw [List.length_map]; omega), List.getElem?_replicate] at h
    split at h <;> cases h
theorem start_no {l : List Dv} {n i : Nat} {s : Sl} (h : (l.map Sl.va ++ List.replicate n Sl.no)[i]? = some s) : (∃ d, s = .va d) ∨ s = .no := by
  by_cases hi : i < l.length
  · rw [List.getElem?_append_left (by rw [List.length_map]; exact hi), List.getElem?_map] at h
    cases q : l[i]? with
    | none => rw [q] at h; cases h
    | some z => rw [q] at h; cases h; exact .inl ⟨z, rfl⟩
  · rw [List.getElem?_append_right (by rw [List.length_map]; omega), List.getElem?_replicate] at h
    split at h
    · cases h; exact .inr rfl
    · cases h
theorem fr_start {K : PySem.W.Frag} {L : Addr → Prop} {io : List Addr} {H : Hp} {S : Sto} {vs : List V} {l : List Dv} {N : List Str} (sr : SR K L io H S) (r : VRs K L io H vs l) : FR K L io H L io H (L2.start N vs) (startE N.length l) S where
  st := sr
  len := by
    unfold L2.start startE
    rw [List.length_append, List.length_append, List.length_map, List.length_map, List.length_replicate, List.length_replicate, r.len]
  va := fun i d h => r.map_get h
  own := fun i m h => by rcases start_no h with ⟨d, z⟩ | z <;> cases z
  inj := fun i j p _ v1 _ n1 _ g1 _ => by
    cases h : (startE N.length l)[i]? with
    | none =>
      have h1 := List.getElem?_eq_none_iff.mp h
      have h2 := (List.getElem?_eq_some_iff.mp g1).1
      unfold L2.start at h2
      unfold startE at h1
      rw [List.length_append, List.length_map, List.length_replicate] at h1 h2
      rw [r.len] at h2
      omega
    | some s =>
      rcases start_no h with ⟨d, z⟩ | z
      · rw [z] at h; exact absurd h (v1 d)
      · rw [z] at h; exact absurd h n1
  en := Stp.refl ..
  sub0 := sr.sub
  dom0 := sr.dom
section
variable {P : Program} {w : World} {K : PySem.W.Frag} {mg : Str → Option Value} {base : Heap} {CX : CXT} {name qual : Str} {params : Arguments} {body : List Stmt} {scope : Scope} {dvs : List V} {kws : List (Str × V)} {f : Addr} {fd : FuncData} {N ps : List Str} {k : Nat} {fb : DS}
/-- what leaves the frame -/
theorem leave {L0 L : Addr → Prop} {io0 io : List Addr} {H0 H : Hp} {S : Sto} (sr : SR K L io H S) (s : Stp L0 io0 H0 L io H) (sub0 : ∀ a ∈ io0, L0 a) : Stp L0 io0 H0 (Lx L0 io) io H ∧ SR K (Lx L0 io) io H S ∧ (∀ a, Lx L0 io a → L a) := by
  have hl : ∀ a, Lx L0 io a → L a := fun a z => z.elim (s.up a) (sr.sub a)
  refine ⟨⟨s.pre, s.hn, fun a z => z.elim .inl fun z => (s.hn a z).elim (fun q => .inl (sub0 a q)) .inr, s.keep, fun a z => .inl z⟩, sr.less hl fun a z => .inr z, hl⟩
/-- a def of the text, by its body's walk: as fn_of, the calls' room without guards -/
theorem fng_of {dV kV doc pm cdv ct oc : Value} {an od : Option Addr} {osl : Array (Option Value)} {sp : Sp} (lk : K.lookup f = some ⟨oc, od, .func (PySem.W.fnOf name qual params body scope dV kV doc pm an cdv ct), osl⟩) (hc : PySem.W.codeIn K cdv qual = true) (Sc : FnScope N ps scope)
    (hl : ∀ vs H Q E, sp vs H Q E → vs.length = ps.length)
    (hb : ∀ (A : Around) (up : List PySem.Env) (s : Shared) (H : Hp) (vs : List V) (Q : VK) (E : XK), RoomG k (A.deeper (PyProof.Rows.envOfC qual scope s.heap.objs.size f cdv)) → sp vs H Q E →
      ∃ t, PSs (cxOf (L2.CX P w) P w K mg base N qual scope f cdv A up s H E) body t ∧ t { nx := fun _ H' => Q .non H', rt := Q } (L2.start N vs) H) :
    FnG P w K mg base (k + 1) f (PySem.W.fnOf name qual params body scope dV kV doc pm an cdv ct) ps sp := by
  constructor
  · exact hl
  intro A up s H args us vs Q E room e0 bd rv q
  have kin := e0.mod.kin.keeps fun b o z => (e0.bs b o z).1
  have nol := e0.mod.nolimit.keeps fun b o z => (e0.bs b o z).1
  have kinds : ∀ y ∈ ps.zip us, scope.names.lookup y.1 = some .local ∨ (scope.names.lookup y.1 = some .cell ∧ ((PySem.cellsFrom (s.heap.objs.size + 1) scope.names []).lookup y.1).isSome = true) := by
    rintro ⟨n, v⟩ hy
    have := Sc.par n (List.of_mem_zip hy).1
    rcases this with z | z
    · exact .inl z
    · exact .inr ⟨z, PySem.W.cellsFrom_some _ _ _ (.inl z)⟩
  refine codeAny_call_function room.r.depth (kin _ _ lk) rfl Sc.co Sc.gen rfl (PySem.W.codeRec_of kin hc) (bd _ _ _ _ ?_)
  refine wpAny_newFunctionEnv_cells Sc.kind kinds fun env he s1 x => ?_
  cases he
  obtain ⟨t, ht, hq⟩ := hb A up s H vs Q E (room.deeper _) q
  have I0 := inv_start (CX := L2.CX P w) (E := E) Sc room.r.hd e0 (hl _ _ _ _ q) rv x
  refine ⟨nol.keeps x.toInCall.keep, codeAny_func (wpAny_mono (ht.run [] s1 _ H _ I0 hq) ?_ fun _ _ z => z)⟩
  intro fl s' z
  match fl, z with
  | .ret u, ⟨v, g', H', J, r, q⟩ => exact ⟨v, H', J.os, J.bare, J.base, J.hok, r, q⟩
  | .next, ⟨g', H', J, q⟩ => exact ⟨.non, H', J.os, J.bare, J.base, J.hok, rfl, q⟩
  | .brk, ⟨_, _, _, q⟩ => exact q.elim
  | .cont, ⟨_, _, _, q⟩ => exact q.elim
/-- the body of a def as a piece over data -/
abbrev BodyG (P : Program) (w : World) (K : PySem.W.Frag) (mg : Str → Option Value) (base : Heap) (N : List Str) (qual : Str) (scope : Scope) (f : Addr) (k : Nat) (body : List Stmt) (fb : DS) : Prop :=
  ∀ (cdv : Value) (A : Around) (up : List PySem.Env) (s : Shared) (H : Hp) (E : XK), RoomG k (A.deeper (PyProof.Rows.envOfC qual scope s.heap.objs.size f cdv)) → Takes (cxOf (L2.CX P w) P w K mg base N qual scope f cdv A up s H E) (fun c d _ H => E c d H) →
    PassesOwn (model P w) (A.deeper (PyProof.Rows.envOfC qual scope s.heap.objs.size f cdv)) (PyProof.Rows.envOfC qual scope s.heap.objs.size f cdv) (cxOf (L2.CX P w) P w K mg base N qual scope f cdv A up s H E).xe →
    QSs (cxOf (L2.CX P w) P w K mg base N qual scope f cdv A up s H E) (fun c d _ H => E c d H) body fb
theorem fn_mk (F : FunD K name qual params body scope dvs kws f fd) (Sc : FnScope N ps scope) (hb : BodyG P w K mg base N qual scope f k body fb) :
    FnG P w K mg base (k + 1) f fd ps (spD K (runF ps.length N.length fb)) := by
  obtain ⟨oc, od, dV, kV, doc, pm, an, cdv, ct, osl, rfl, lk, hcd, _, _⟩ := F.ex
  refine fng_of lk hcd Sc (fun vs H Q E h => ?_) fun A outer s H vs Q E hr h => ⟨_, hb cdv A outer s H E hr (takes_of rfl rfl rfl rfl) (passes_of rfl), ?_⟩
  · obtain ⟨L, io, S, l, sr, r, h⟩ := h
    unfold runF at h
    by_cases hl : l.length = ps.length
    · rw [r.len, hl]
    · rw [if_neg hl] at h; exact h.elim
  · obtain ⟨L, io, S, l, sr, r, h⟩ := h
    unfold runF at h
    by_cases hl : l.length = ps.length
    · rw [if_pos hl] at h
      refine ⟨L, io, H, L, io, startE N.length l, S, fr_start sr r, ?_⟩
      show outR K _ L io H _ L io H (fb (startE N.length l) S)
      cases hf : fb (startE N.length l) S with
      | nx e S' =>
        rw [hf] at h
        intro g H' L' io' sw fr
        obtain ⟨s1, s2, s3⟩ := leave fr.st fr.en fr.sub0
        exact h .non H' io' s1 s2 .non
      | rt d S' =>
        rw [hf] at h
        intro v H' L' io' sr' s r'
        obtain ⟨s1, s2, s3⟩ := leave sr' s sr.sub
        exact h v H' io' s1 s2 (r'.less s3)
      | ex c fs e S' =>
        rw [hf] at h
        intro x g H' L' io' sw fr rx
        obtain ⟨s1, s2, s3⟩ := leave fr.st fr.en fr.sub0
        obtain ⟨a, vs', e1, e2, e3, e4⟩ := rx
        exact h x H' io' s1 s2 ⟨a, vs', e1, fun z => e2 (s3 a z), e3, e4.mono fun v d r => r.less s3⟩
      | _ => rw [hf] at h; exact h.elim
    · rw [if_neg hl] at h; exact h.elim
end
end DL
namespace DL
open PySem L2
mutual
def litB (K : PySem.W.Frag) : Dv → Value → Bool
  | .non, .none => true
  | .bl b, .bool c => b == c
  | .int i, .int j _ => decide (i = j)
  | .str x, .str y _ => decide (x = y)
  | .tup l, .ref a => (match K.lookup a with
    | some ⟨.type c, none, .seq its _, _⟩ => decide (c = "tuple") && (decide (its.size ≤ sizeLine) && litsB K l its.toList)
    | _ => false)
  | .rol l, .ref a => (match K.lookup a with
    | some ⟨.type c, none, .seq its _, _⟩ => decide (c = "list") && (decide (its.size ≤ sizeLine) && litsB K l its.toList)
    | _ => false)
  | _, _ => false
def litsB (K : PySem.W.Frag) : List Dv → List Value → Bool
  | [], [] => true
  | d :: l, u :: us => litB K d u && litsB K l us
  | _, _ => false
end
mutual
theorem litB_ok {K : PySem.W.Frag} : ∀ (d : Dv) (u : Value), litB K d u = true → ∃ v, RelV v u ∧ ∀ L io H, VR K L io H v d
  | .non, .none, _ => ⟨.non, rfl, fun _ _ _ => .non⟩
  | .bl b, .bool c, h => by
    have e : b = c := eq_of_beq (show (b == c) = true from by simpa [litB] using h)
    subst e
    exact ⟨.bl b, rfl, fun _ _ _ => .bl b⟩
  | .int i, .int j t, h => by
    have e : i = j := by simpa [litB] using h
    subst e
    exact ⟨.int i, ⟨t, rfl⟩, fun _ _ _ => .int i⟩
  | .str i, .str j t, h => by
    have e : i = j := by simpa [litB] using h
    subst e
    exact ⟨.str i, ⟨t, rfl⟩, fun _ _ _ => .str i⟩
  | .tup l, .ref a, h => by
    unfold litB at h
    cases q : K.lookup a with
    | none => rw [q] at h; cases h
    | some o =>
      obtain ⟨oc, od, dt, osl⟩ := o
      rw [q] at h
      cases oc with
      | type c =>
        cases od with
        | none =>
          cases dt with
          | seq its n =>
            obtain ⟨h1, h2⟩ := He.ba (show (decide (c = "tuple") && (decide (its.size ≤ sizeLine) && litsB K l its.toList)) = true from h)
            obtain ⟨h3, h4⟩ := He.ba h2
            obtain ⟨vs, r1, r2⟩ := litsB_ok l _ h4
            have ec : Value.type c = .type "tuple" := congrArg Value.type (of_decide_eq_true h1)
            exact ⟨.ref a, rfl, fun L io H => .tupK ⟨fun H' => .inr ⟨_, its, n, q, ec, rfl, of_decide_eq_true h3, r1⟩, _, q, ec, rfl⟩ (r2 L io H)⟩
          | _ => cases h
        | some b => cases dt <;> cases h
      | _ => cases od <;> cases dt <;> cases h
  | .rol l, .ref a, h => by
    unfold litB at h
    cases q : K.lookup a with
    | none => rw [q] at h; cases h
    | some o =>
      obtain ⟨oc, od, dt, osl⟩ := o
      rw [q] at h
      cases oc with
      | type c =>
        cases od with
        | none =>
          cases dt with
          | seq its n =>
            obtain ⟨h1, h2⟩ := He.ba (show (decide (c = "list") && (decide (its.size ≤ sizeLine) && litsB K l its.toList)) = true from h)
            obtain ⟨h3, h4⟩ := He.ba h2
            obtain ⟨vs, r1, r2⟩ := litsB_ok l _ h4
            exact ⟨.ref a, rfl, fun L io H => .rolK (fun H' => .inr ⟨_, its, n, q, congrArg Value.type (of_decide_eq_true h1), rfl, rfl, of_decide_eq_true h3, r1⟩) (r2 L io H)⟩
          | _ => cases h
        | some z => cases dt <;> cases h
      | _ => cases od <;> cases dt <;> cases h
theorem litsB_ok {K : PySem.W.Frag} : ∀ (l : List Dv) (us : List Value), litsB K l us = true → ∃ vs, Vals vs us ∧ ∀ L io H, VRs K L io H vs l
  | [], [], _ => ⟨[], .nil, fun _ _ _ => .nil⟩
  | d :: l, u :: us, h => by
    obtain ⟨h1, h2⟩ := He.ba (show (litB K d u && litsB K l us) = true from by simpa [litsB] using h)
    obtain ⟨v, r1, r2⟩ := litB_ok d u h1
    obtain ⟨vs, r3, r4⟩ := litsB_ok l us h2
    exact ⟨v :: vs, .cons r1 r3, fun L io H => .cons (r2 L io H) (r4 L io H)⟩
end
/-- the module's name x is the constant d -/
def GlobC (K : PySem.W.Frag) (mg : Str → Option Value) (x : Str) (d : Dv) : Prop := ∃ u v, mg x = some u ∧ RelV v u ∧ ∀ L io H, VR K L io H v d
theorem qe_con {X : Cx} {W : WX} {pos : Pos} {x : Str} {d : Dv} (G : GlobC X.K X.mg x d) (hg : Gl X x := by rfl) (hd : (x == ("__debug__" : Str)) = false := by decide) : QE X W (.Name x pos) (eC d) := by
  obtain ⟨u, v, h1, h2, h3⟩ := G
  exact qe_glob h1 h2 h3 hg hd
/-- a def of the module as a value -/
theorem qe_glo {X : Cx} {W : WX} {pos : Pos} {x : Str} (hm : X.mg x = some (.ref (He.ga X.K x))) (hg : Gl X x := by rfl) (hd : (x == ("__debug__" : Str)) = false := by decide) : QE X W (.Name x pos) (eC (.glo x)) := qe_glob (v := .ref (He.ga X.K x)) hm rfl (fun _ _ _ => .glo x) hg hd
inductive Ft where
  | glo (x : Str) | free (x : Str) | con (x : Str) (d : Dv) | any (p : PySem.W.Frag → Bool)
def Ft.ok (K : PySem.W.Frag) : Ft → Bool
  | .glo x => (He.Fa.glo x).ok K
  | .free x => (He.Fa.free x).ok K
  | .con x d => (match PySem.W.nsIn K mainGlobals x with
    | some (some u) => litB K d u
    | _ => false)
  | .any p => p K
theorem con_ok {K : PySem.W.Frag} {h : Heap} {mg : Str → Option Value} (X : K.In h) (G : h.Ns mainGlobals mg) {x : Str} {d : Dv} (c : (Ft.con x d).ok K = true) : GlobC K mg x d := by
  have c2 : (match PySem.W.nsIn K mainGlobals x with
    | some (some u) => litB K d u
    | _ => false) = true := c
  cases e : PySem.W.nsIn K mainGlobals x with
  | none => rw [e] at c2; cases c2
  | some o =>
    rw [e] at c2
    cases o with
    | none => cases c2
    | some u =>
      obtain ⟨v, r1, r2⟩ := litB_ok d u c2
      exact ⟨u, v, PySem.W.mg_of X G e, r1, r2⟩
def obsM (fa : List Ft) (fn : List He.DefD) (K : PySem.W.Frag) : He.AlD := ((fa.all fun f => f.ok K) && fn.all fun d => d.ok K, fn.map fun d => He.fnW K d.at_)
def SaysM (fa : List Ft) (fn : List He.DefD) (K : PySem.W.Frag) : Prop := obsM fa fn K = He.valD fn
section
variable {fa : List Ft} {fn : List He.DefD} {K : PySem.W.Frag}
theorem SaysM.fact (c : SaysM fa fn K) (i : Nat) {f : Ft} (h : fa[i]? = some f := by rfl) : f.ok K = true := by
  have c1 := (He.ba (show ((fa.all fun f => f.ok K) && fn.all fun d => d.ok K) = true from congrArg (fun z : He.AlD => z.1) c)).1
  exact List.all_eq_true.mp c1 f (List.mem_of_getElem? h)
theorem SaysM.def_ (c : SaysM fa fn K) (i : Nat) {d : He.DefD} (h : fn[i]? = some d := by rfl) : ∃ fd, FunD K d.name d.qual d.params d.body d.scope (d.dvs K) (d.kws K) (He.fAd K d.at_) fd := by
  have c2 := (He.ba (show ((fa.all fun f => f.ok K) && fn.all fun d => d.ok K) = true from congrArg (fun z : He.AlD => z.1) c)).2
  have e : fn.map (fun d => He.fnW K d.at_) = fn.map He.DefD.val := congrArg (fun z : He.AlD => z.2) c
  have e2 : (fn.map fun d => He.fnW K d.at_)[i]? = (fn.map He.DefD.val)[i]? := by rw [e]
  rw [List.getElem?_map, List.getElem?_map, h] at e2
  exact He.DefD.funD (Option.some.inj e2) (List.all_eq_true.mp c2 d (List.mem_of_getElem? h))
end
/-- a def of the module, from its body's walk -/
theorem fd_mk {P : Program} {w : World} {K : PySem.W.Frag} {mg : Str → Option Value} {base : Heap} {x : Str} {st : Stmt} {N ps : List Str} {k np n : Nat} {fb : DS} (F : ∃ fd, FunD K x x (defArgs st) (defBody st) (defScope st) [] [] (He.ga K x) fd) (hm : mg x = some (.ref (He.ga K x)))
    (Sc : FnScope N ps (defScope st))
    (hbi : ∀ (kV doc pm : Value) (an : Option Addr) (cdv ct : Value) (us : List Value), us.length = ps.length → bindArgs (PySem.W.fnOf x x (defArgs st) (defBody st) (defScope st) .none kV doc pm an cdv ct) ⟨us, []⟩ = pure (ps.zip us))
    (hnp : ps.length = np) (hn : N.length = n) (hb : BodyG P w K mg base N x (defScope st) (He.ga K x) (k + 1) (defBody st) fb) : FD P w K mg base (k + 2) x (runF np n fb) := by
  subst hnp hn
  obtain ⟨fd, F⟩ := F
  exact ⟨_, fd, ps, fn_mk F Sc hb, hm, rfl, F.kp, F.bindsN hbi⟩
/-- .. of which nothing is asked -/
theorem fd_no {P : Program} {w : World} {K : PySem.W.Frag} {mg : Str → Option Value} {base : Heap} {x : Str} {st : Stmt} {ps : List Str} {k : Nat} (F : ∃ fd, FunD K x x (defArgs st) (defBody st) (defScope st) [] [] (He.ga K x) fd) (hm : mg x = some (.ref (He.ga K x)))
    (hbi : ∀ (kV doc pm : Value) (an : Option Addr) (cdv ct : Value) (us : List Value), us.length = ps.length → bindArgs (PySem.W.fnOf x x (defArgs st) (defBody st) (defScope st) .none kV doc pm an cdv ct) ⟨us, []⟩ = pure (ps.zip us)) : FD P w K mg base k x gNo := by
  obtain ⟨fd, F⟩ := F
  exact ⟨_, fd, ps, FnG.never spD_no, hm, rfl, F.kp, F.bindsN hbi⟩
/-- sys.modules stands in the heap -/
def SysB (h : Heap) : Prop := ∃ mm, h.Ns sysModules mm
section
variable {P : Program} {w : World} {K : PySem.W.Frag} {mg mb : Str → Option Value} {k : Nat} {fa a : Addr} {fd : FuncData} {x : Str} {sp : Sp} {s1 : Shared} {vs : List Value} {ns : List Int}
/-- over an abstract heap that knows the script at most -/
theorem law_over (KX : K.In s1.heap) (G : s1.heap.Ns mainGlobals mg) (B : s1.heap.Ns builtinsNs mb) (hB : ∀ y : Str, y ≠ "__name__" → mb y = bootBuiltins y) (nl : s1.heap.NoLimit) (ng : s1.gens = #[]) (hs : SysB s1.heap)
    (oa : s1.heap.get? a = some { cls := .type "list", data := .seq vs.toArray }) (hr : RoomG k callerA)
    (F : ∀ base : Heap, K.In base → base.Ns mainGlobals mg → SysB base → FnG P w K mg base k fa fd [x] sp) (bd : ∀ (s : Shared) (u : Value), BindsTo s fd ⟨[u], []⟩ [(x, u)])
    (H : Hp) (hO : Only H) (hok : HOk P w H s1.heap) (hA : ∀ b, H b ≠ none → b = a) (hK : H a ≠ none → K.lookup a = none)
    (q : sp [.ref a] H (fun v _ => v = .bl true) fun _ _ _ => False) :
    codeAny (model P w) callerA (.call (.ref fa) ⟨[.ref a], []⟩) (fun r s' => r = .ok (.ret (.bool true)) ∧ OldK s1.heap s'.heap ∧ s'.os = s1.os ∧ PyProof.Rows.AllBare s'.gens) s1 := by
  have free : ∀ {b : Addr} {o : Obj}, s1.heap.get? b = some o → (∀ its n, o.data ≠ .seq its n) → H b = none := by
    intro b o e hn
    by_cases hb : H b = none
    · exact hb
    · cases hA b hb
      rw [oa] at e
      cases e
      exact absurd rfl (hn _ _)
  have nsB : ∀ {b : Addr} {m : Str → Option Value}, s1.heap.Ns b m → (hidT s1.heap H).Ns b m := by
    rintro b m ⟨o, es, ep, e, d, r⟩
    exact ⟨o, es, ep, hidT_get e (free e fun its n z => by rw [d] at z; cases z), d, r⟩
  have KB : K.In (hidT s1.heap H) := by
    intro b o e
    refine hidT_get (KX b o e) ?_
    by_cases hb : H b = none
    · exact hb
    · cases hA b hb
      rw [hK hb] at e
      cases e
  obtain ⟨mc, l1, l2⟩ := nl
  have e0 : Env0 P w K mg (hidT s1.heap H) callerA [] s1 H :=
    { frames := rfl, mod := ⟨KB, nsB G, ⟨mb, nsB B, hB⟩, mc, nsB l1, l2⟩, bs := fun b o z => of_hidT z, bsz := Nat.le_of_eq (hidT_size _ _), funs := trivial, frf := fun b z => (nomatch (show b ∈ ([] : List Addr) from z)), hok := hok, bare := .of_eq ng }
  refine codeAny_mono ((F _ KB (nsB G) (let ⟨mm, z⟩ := hs; ⟨mm, nsB z⟩)).run _ [] s1 H _ [.ref a] [.ref a] _ _ hr e0 (bd s1 (.ref a)) (.cons rfl .nil) q) ?_
  intro r s' z
  match r, z with
  | .error e, ⟨_, _, _, _, _, _, _, _, _, _, _, _, z⟩ => exact z.elim
  | .ok .next, z => exact z.elim
  | .ok .brk, z => exact z.elim
  | .ok .cont, z => exact z.elim
  | .ok (.ret u), ⟨v, H', os, bare, un, hok', r', z⟩ =>
    cases (show v = .bl true from z)
    cases (show u = Value.bool true from r')
    refine ⟨rfl, OldK.of_keep fun b o e => ?_, os, bare⟩
    rcases hO b with hb | ⟨ob, xs, hb⟩
    · exact un.keep b o e hb (fun z => nomatch (show b ∈ ([] : List Addr) from z)) (fun z => nomatch z)
    · have e1 := (hok b _ hb).1
      have e2 := (hok' b _ (un.frzs b ob _ hb)).1
      rw [e] at e1
      rw [e2, ← e1]
theorem law_g (KX : K.In s1.heap) (G : s1.heap.Ns mainGlobals mg) (B : s1.heap.Ns builtinsNs mb) (hB : ∀ y : Str, y ≠ "__name__" → mb y = bootBuiltins y) (nl : s1.heap.NoLimit) (ng : s1.gens = #[]) (hs : SysB s1.heap)
    (oa : s1.heap.get? a = some { cls := .type "list", data := .seq vs.toArray }) (hi : PyProof.Rows.IntsAre vs ns) (hl : ns.length ≤ sizeLine) (hr : RoomG k callerA)
    (F : ∀ base : Heap, K.In base → base.Ns mainGlobals mg → SysB base → FnG P w K mg base k fa fd [x] sp) (bd : ∀ (s : Shared) (u : Value), BindsTo s fd ⟨[u], []⟩ [(x, u)])
    (q : ∀ H : Hp, SqL K H a (ns.map V.int) → sp [.ref a] H (fun v _ => v = .bl true) fun _ _ _ => False) :
    codeAny (model P w) callerA (.call (.ref fa) ⟨[.ref a], []⟩) (fun r s' => r = .ok (.ret (.bool true)) ∧ OldK s1.heap s'.heap ∧ s'.os = s1.os ∧ PyProof.Rows.AllBare s'.gens) s1 := by
  have rv := vals_ints hi
  have hv := hi.length
  by_cases hk : ∃ o, K.lookup a = some o
  · obtain ⟨o, hk⟩ := hk
    have e := KX a o hk
    rw [oa] at e
    cases e
    refine law_over KX G B hB nl ng hs oa hr F bd (fun _ => none) (fun _ => .inl rfl) (fun _ _ z => nomatch z) (fun _ z => (z rfl).elim) (fun z => (z rfl).elim) (q _ (.inr ⟨_, vs.toArray, _, hk, rfl, rfl, rfl, ?_, by simpa using rv⟩))
    rw [List.size_toArray, hv]
    exact hl
  · have hk' : K.lookup a = none := by
      cases z : K.lookup a with
      | none => rfl
      | some o => exact absurd ⟨o, z⟩ hk
    let u : HO := .frz { cls := .type "list", data := .seq vs.toArray } (.lst (ns.map V.int))
    have at_ : ∀ b v, upd (fun _ => none) a u b = some v → b = a ∧ v = u := by
      intro b v z
      by_cases hb : b = a
      · subst hb
        rw [upd_same] at z
        cases z
        exact ⟨rfl, rfl⟩
      · rw [upd_ne hb] at z
        cases z
    refine law_over KX G B hB nl ng hs oa hr F bd (upd (fun _ => none) a u) (fun b => ?_) (fun b v z => ?_) (fun b z => ?_) (fun _ => hk') (q _ (.inl (.inr ⟨_, upd_same⟩)))
    · by_cases hb : b = a
      · exact .inr ⟨_, _, by rw [hb]; exact upd_same⟩
      · exact .inl (upd_ne hb)
    · obtain ⟨rfl, rfl⟩ := at_ b v z
      exact ⟨oa, by rw [List.length_map]; exact hl, vs, _, rv, oa⟩
    · cases h : upd (fun _ => none) a u b with
      | none => exact absurd h z
      | some v => exact (at_ b v h).1
end
/-- the goal that the head leaves -/
theorem walk_g {l : PySem.W.OpenLaw} {n k : Nat} {q : Program} {loose : List Str} {XP : (Str → Option Value) → Heap → Prop} {YP : World → Heap → Prop} {d : DefRec} {x : Str} (hn : l.most = some n) (hz : n ≤ sizeLine) (hd : d.params.defaults = []) (him : PyProof.Rows.importsNone q = true) (hr : RoomG k callerA)
    (F : ∀ (w : World) (mg : Str → Option Value) (fa : Addr) (h : Heap), YP w h → h.Ns mainGlobals mg → mg d.name = some (.ref fa) → ∃ (K : PySem.W.Frag) (fd : FuncData) (sp : Sp), K.In h ∧ (∀ (s : Shared) (u : Value), BindsTo s fd ⟨[u], []⟩ [(x, u)]) ∧
      (∀ (H : Hp) (a : Addr) (ns : List Int), ns.length ≤ n → SqL K H a (ns.map V.int) → sp [.ref a] H (fun v _ => v = .bl true) fun _ _ _ => False) ∧ ∀ base : Heap, K.In base → base.Ns mainGlobals mg → SysB base → FnG l.prog w K mg base k fa fd [x] sp) :
    PySem.W.WalkO q loose XP YP l.row.toRowW d [] (fun f vs => PySem.call f vs) := by
  refine Att.attach_call hn hd fun w s0 s1 mg mb fa o pm cd doc a vs ns G Y ho hd' hcd hm oa hi hl ng => ?_
  obtain ⟨K, fd, sp, KX, bd, q, hF⟩ := F w mg fa _ Y G.T.g hm
  exact law_g KX G.T.g G.T.b G.T.builtins G.T.nolimit ng (let ⟨mm, z, _⟩ := (G.T.seer him).mods; ⟨mm, z⟩) oa hi (Nat.le_trans hl hz) hr hF bd fun H hS => q H a ns hl hS
/-- the law's end -/
theorem law_end {K : PySem.W.Frag} {g : DF} (h : ∀ ns : List Int, ns.length ≤ 63 → ∃ S, g [] [.rol (ns.map .int)] = .ok (.bl true) S) (H : Hp) (a : Addr) (ns : List Int) (hl : ns.length ≤ 63) (hS : SqL K H a (ns.map V.int)) : spD K g [.ref a] H (fun v _ => v = .bl true) fun _ _ _ => False := by
  obtain ⟨S, e⟩ := h ns hl
  have hv : ∀ ns : List Int, VRs K (fun _ => False) [] H (ns.map V.int) (ns.map Dv.int) := fun ns => by
    induction ns with
    | nil => exact .nil
    | cons n r ih => exact .cons (.int n) ih
  refine ⟨fun _ => False, [], [], [.rol (ns.map .int)], ⟨rfl, .nil, fun _ h => (nomatch h), fun _ h => h.elim, fun k a o h => by simp at h⟩, .cons ?_ .nil, ?_⟩
  · rcases hS with hS | hS
    · exact .rol (fun z => z) hS (hv ns)
    · exact .rolK (fun H' => .inr hS) (hv ns)
  · rw [e]
    intro v H' io' _ _ r
    cases r
    rfl
end DL
namespace DL
open PySem L2
theorem call_isiA {X : Cx} : CallR X (.builtin "isinstance") (rIsiA X.K) := CallR.or call_isi (CallR.or call_isiT call_isiK)
section
variable {X : Cx} {W : WX} {elt tg iter : Expr} {ifs : List Expr} {scope : Scope} {own : List (Str × Nat)} {pos spos py : Pos} {fi : DL} {gd : DG} {tt : DT} {te : DE} {y : Str}
/-- -e -/
def negD : Dv → Sto → Res Dv
  | .int i, S => .ok (.int (-i)) S
  | _, _ => .no
def eNeg (f : DE) : DE := fun e S => bnd (f e S) negD
theorem qe_neg {a : Expr} {f : DE} (h : QE X W a f) : QE X W (.UnaryOp .USub a pos) (eNeg f) := pe_imp (pe_un un_neg h) fun g H Q q => by
  refine Rdg.bind (R := VR X.K) (k := fun _ => negD) q fun L0 io0 H0 L io H1 e S d v fr rv q => ?_
  cases rv with
  | int i => exact ⟨i, rfl, q.ok1 fr.st (.int _)⟩
  | _ => exact q.elim
end
end DL
namespace DL
open PySem L2
def keyD : Dv → Option Key
  | .int i => some (.inl i)
  | .str x => some (.inr x)
  | _ => none
def dV : Key → Dv
  | .inl i => .int i
  | .inr x => .str x
section
variable {K : PySem.W.Frag} {L L' : Addr → Prop} {io io' : List Addr} {H H' : Hp} {S : Sto}
theorem keyD_ok {v : V} {d : Dv} {k : Key} (r : VR K L io H v d) (h : keyD d = some k) : v = kV k := by
  cases r with
  | int i => cases h; rfl
  | str i => cases h; rfl
  | _ => cases h
theorem VR.key (k : Key) : VR K L io H (kV k) (dV k) := by
  cases k with
  | inl i => exact .int i
  | inr x => exact .str x
def valD (l : List (Key × Dv)) (k : Key) : Option Dv := (l.find? fun kv => decide (kv.1 = k)).map (·.2)
def putD (l : List (Key × Dv)) (k : Key) (d : Dv) : List (Key × Dv) := if (l.any fun kv => decide (kv.1 = k)) = true then l.map (fun kv => if kv.1 = k then (kv.1, d) else kv) else l ++ [(k, d)]
def dropD (l : List (Key × Dv)) (k : Key) : List (Key × Dv) := l.filter fun kv => decide (kv.1 ≠ k)
def mergeD (l more : List (Key × Dv)) : List (Key × Dv) := more.foldl (fun acc kv => putD acc kv.1 kv.2) l
theorem VRp.pair : ∀ {kvs : List (Key × V)} {l : List (Key × Dv)}, VRp K L io H kvs l → PairR (VR K L io H) kvs l
  | _, _, .nil => .nil
  | _, _, .cons h t => .cons ⟨rfl, h⟩ (VRp.pair t)
theorem PairR.vrp : ∀ {kvs : List (Key × V)} {l : List (Key × Dv)}, PairR (VR K L io H) kvs l → VRp K L io H kvs l
  | _, _, .nil => .nil
  | (k, v) :: _, (k', d) :: _, .cons ⟨h1, h2⟩ t => by
    cases (show k = k' from h1)
    exact .cons h2 (PairR.vrp t)
theorem PairR.val {R : V → Dv → Prop} : ∀ {kvs : List (Key × V)} {l : List (Key × Dv)} (k : Key), PairR R kvs l → (∀ d, valD l k = some d → ∃ v, valV kvs k = some v ∧ R v d) ∧ (valD l k = none → valV kvs k = none)
  | [], _, k, .nil => ⟨fun d h => (by simp [valD] at h), fun _ => rfl⟩
  | (k1, v) :: kvs, (k2, d) :: l, k, .cons ⟨h1, h2⟩ t => by
    cases (show k1 = k2 from h1)
    have ih := PairR.val k t
    unfold valD valV at ih ⊢
    by_cases e : k1 = k
    · subst e
      refine ⟨fun d' h => ?_, fun h => ?_⟩
      · simp at h; subst h; exact ⟨v, by simp, h2⟩
      · simp at h
    · rw [List.find?_cons, List.find?_cons]
      simp only [e, decide_false]
      exact ih
theorem PairR.any {R : V → Dv → Prop} (k : Key) : ∀ {kvs : List (Key × V)} {l : List (Key × Dv)}, PairR R kvs l → (kvs.any fun kv => decide (kv.1 = k)) = l.any fun kv => decide (kv.1 = k)
  | _, _, .nil => rfl
  | (k1, v) :: kvs, (k2, d) :: l, .cons ⟨h1, h2⟩ t => by
    cases (show k1 = k2 from h1)
    rw [List.any_cons, List.any_cons, PairR.any k t]
theorem PairR.app {R : V → Dv → Prop} : ∀ {kvs kvs' : List (Key × V)} {l l' : List (Key × Dv)}, PairR R kvs l → PairR R kvs' l' → PairR R (kvs ++ kvs') (l ++ l')
  | _, _, _, _, .nil, h => h
  | _, _, _, _, .cons h t, h2 => .cons h (PairR.app t h2)
theorem PairR.mapP {R : V → Dv → Prop} {k : Key} {v : V} {d : Dv} (h : R v d) : ∀ {kvs : List (Key × V)} {l : List (Key × Dv)}, PairR R kvs l → PairR R (kvs.map fun kv => if kv.1 = k then (kv.1, v) else kv) (l.map fun kv => if kv.1 = k then (kv.1, d) else kv)
  | _, _, .nil => .nil
  | (k1, v1) :: kvs, (k2, d1) :: l, .cons ⟨h1, h2⟩ t => by
    cases (show k1 = k2 from h1)
    rw [List.map_cons, List.map_cons]
    refine .cons ?_ (PairR.mapP h t)
    by_cases e : k1 = k
    · rw [if_pos e, if_pos e]; exact ⟨rfl, h⟩
    · rw [if_neg e, if_neg e]; exact ⟨rfl, h2⟩
theorem PairR.put {R : V → Dv → Prop} {k : Key} {v : V} {d : Dv} {kvs : List (Key × V)} {l : List (Key × Dv)} (r : PairR R kvs l) (h : R v d) : PairR R (putK kvs k v) (putD l k d) := by
  unfold putK putD
  rw [r.any k]
  split
  · exact r.mapP h
  · exact r.app (.cons ⟨rfl, h⟩ .nil)
theorem PairR.drop {R : V → Dv → Prop} (k : Key) : ∀ {kvs : List (Key × V)} {l : List (Key × Dv)}, PairR R kvs l → PairR R (dropK kvs k) (dropD l k)
  | _, _, .nil => .nil
  | (k1, v1) :: kvs, (k2, d1) :: l, .cons ⟨h1, h2⟩ t => by
    cases (show k1 = k2 from h1)
    have ih := PairR.drop k t
    unfold dropK dropD at ih ⊢
    rw [List.filter_cons, List.filter_cons]
    by_cases e : k1 = k
    · simp only [e, ne_eq, not_true, decide_false, Bool.false_eq_true, if_false]; exact ih
    · simp only [ne_eq, e, not_false_iff, decide_true, if_true]; exact .cons ⟨rfl, h2⟩ ih
theorem PairR.merge {R : V → Dv → Prop} : ∀ {more : List (Key × V)} {lm : List (Key × Dv)} {kvs : List (Key × V)} {l : List (Key × Dv)}, PairR R more lm → PairR R kvs l → PairR R (mergeK kvs more) (mergeD l lm)
  | _, _, _, _, .nil, h => h
  | (k1, v1) :: more, (k2, d1) :: lm, kvs, l, .cons ⟨h1, h2⟩ t, h => by
    cases (show k1 = k2 from h1)
    have h3 : PairR R (putK kvs k1 v1) (putD l k1 d1) := PairR.put h h2
    exact PairR.merge (kvs := putK kvs k1 v1) (l := putD l k1 d1) t h3
end
def NewD (K : PySem.W.Frag) (H : Hp) (L' : Addr → Prop) (io' : List Addr) (H' : Hp) (v : V) (l : List (Key × Dv)) : Prop := ∃ p kvs, v = .ref p ∧ H p = none ∧ L' p ∧ p ∉ io' ∧ H' p = some (.dK kvs) ∧ PairR (VR K L' io' H') kvs l
abbrev DD := Env → Sto → Res (List (Key × Dv))
def FinD (K : PySem.W.Frag) (W : WX) (g : St) (L : Addr → Prop) (io : List Addr) (H : Hp) (Q : V → Hp → Prop) : Res (List (Key × Dv)) → Prop
  | .ok d S' => ∀ (v : V) (H' : Hp) (L' : Addr → Prop) (io' : List Addr), Stp L io H L' io' H' → SR K L' io' H' S' → NewD K H L' io' H' v d → Q v H'
  | .ex c fs S' => ∀ (x : Option Addr) (H' : Hp) (L' : Addr → Prop) (io' : List Addr), Stp L io H L' io' H' → SR K L' io' H' S' → ExR K L' io' H' x fs → W (.ref (He.ga K c)) x g H'
  | .no => False
def rdD (K : PySem.W.Frag) (W : WX) (f : DD) : TE := fun g H Q => ∃ (L0 : Addr → Prop) (io0 : List Addr) (H0 : Hp) (L : Addr → Prop) (io : List Addr) (e : Env) (S : Sto), FR K L0 io0 H0 L io H g e S ∧ FinD K W g L io H Q (f e S)
abbrev QD (X : Cx) (W : WX) (e : Expr) (f : DD) : Prop := PE X e (rdD X.K W f)
def eFrzD (f : DD) : DE := fun e S => bnd (f e S) fun l S' => .ok (.dic l) S'
theorem rd_frzD {K : PySem.W.Frag} {W : WX} {f : DD} {g : St} {H : Hp} {Q : VK} (q : rd K W (eFrzD f) g H Q) : rdD K W f g H Q := by
  obtain ⟨L0, io0, H0, L, io, e, S, fr, q⟩ := q
  refine ⟨L0, io0, H0, L, io, e, S, fr, ?_⟩
  have q : Fin K W (VR K) g L io H Q (bnd (f e S) fun l S' => .ok (.dic l) S') := q
  cases hf : f e S with
  | no => rw [hf] at q; exact q
  | ex c fs S' => rw [hf] at q; exact q
  | ok l S' =>
    rw [hf] at q
    intro v H' L' io' s sr ⟨p, xs, hv, hp, lp, np, h1, h2⟩
    subst hv
    have hl : ∀ a, Lz L' p a → L' a := fun a z => z.1
    refine q _ H' (Lz L' p) io' ⟨s.pre, s.hn, fun a z => s.new a z.1, s.keep, fun a z => ⟨s.up a z, fun e => fr.st.dom a z (by rw [e]; exact hp)⟩⟩ (sr.less hl fun a ha => ⟨sr.sub a ha, fun e => np (by rw [← e]; exact ha)⟩) (.dic (fun z => z.2 rfl) (.inl h1) (h2.mono fun v d r => r.less hl).vrp)
theorem qe_frzD {X : Cx} {W : WX} {a : Expr} {f : DD} (h : QD X W a f) : QE X W a (eFrzD f) := pe_imp h fun g H Q q => rd_frzD q
/-- {} -/
def dNil : DD := fun _ S => .ok [] S
theorem qd_nil {X : Cx} {W : WX} {pos : Pos} : QD X W (.Dict [] [] pos) dNil := pe_imp pe_dnewK fun g H Q q => by
  obtain ⟨L0, io0, H0, L, io, e, S, fr, q⟩ := q
  intro p hp
  exact q _ _ (Ly L p) io (Stp.newV hp) (fr.st.newV hp) ⟨p, [], rfl, hp, .inr rfl, fun z => fr.st.dom p (fr.st.sub p z) hp, upd_same, .nil⟩
/-- {k: v, ..} -/
abbrev DP := Env → Sto → Res (List (Dv × Dv))
def pNil : DP := fun _ S => .ok [] S
def pCons (fk fv : DE) (fp : DP) : DP := fun e S => bnd (fk e S) fun k S1 => bnd (fv e S1) fun v S2 => bnd (fp e S2) fun l S3 => .ok ((k, v) :: l) S3
def PvR (K : PySem.W.Frag) (L : Addr → Prop) (io : List Addr) (H : Hp) : List (V × V) → List (Dv × Dv) → Prop := Paired fun p q => VR K L io H p.1 q.1 ∧ VR K L io H p.2 q.2
def QP (X : Cx) (W : WX) (pos : Pos) (ks : List (Option Expr)) (vs : List Expr) (f : DP) : Prop := ∃ trs, PPs X pos ks vs trs ∧ ∀ g H Q, Rdg X.K W (PvR X.K) f g H Q → tPairs trs g H Q
section
variable {X : Cx} {W : WX} {pos : Pos} {k v o i : Expr} {ks : List (Option Expr)} {vs : List Expr} {fk fv f f2 : DE} {fp : DP}
theorem qp_nil : QP X W pos [] [] pNil := ⟨[], pps_nil, fun g H Q q => by
  obtain ⟨L0, io0, H0, L, io, e, S, fr, q⟩ := q
  exact q.ok1 fr.st .nil⟩
theorem qp_cons (hk : QE X W k fk) (hv : QE X W v fv) (hr : QP X W pos ks vs fp) : QP X W pos (some k :: ks) (v :: vs) (pCons fk fv fp) := by
  obtain ⟨trs, p, o⟩ := hr
  refine ⟨(rd X.K W fk, rd X.K W fv) :: trs, pps_cons hk hv p, fun g H Q q => ?_⟩
  refine Rdg.bind (R := VR X.K) (k := fun e k S1 => bnd (fv e S1) fun v S2 => bnd (fp e S2) fun l S3 => .ok ((k, v) :: l) S3) q fun L0 io0 H0 L io H1 e S dk x fr rk q => ?_
  refine Fin.bind (R := VR X.K) (k := fun v S2 => bnd (fp e S2) fun l S3 => .ok ((dk, v) :: l) S3) fr q fun L2 io2 H2 S2 dv y s2 fr2 rv q => ?_
  refine o _ _ _ (Fin.bind (R := PvR X.K) (k := fun l S3 => .ok ((dk, dv) :: l) S3) fr2 q fun L3 io3 H3 S3 l w s3 fr3 rl q => ?_)
  exact q.ok1 fr3.st (.cons ⟨(rk.step s2 fr.st.sub).step s3 fr2.st.sub, rv.step s3 fr2.st.sub⟩ rl)
def keysD : List (Dv × Dv) → Option (List (Key × Dv))
  | [] => some []
  | (k, v) :: r => (keyD k).bind fun k' => (keysD r).map fun l => (k', v) :: l
theorem keysD_ok {K : PySem.W.Frag} {L : Addr → Prop} {io : List Addr} {H : Hp} : ∀ {ps : List (V × V)} {l : List (Dv × Dv)} {m : List (Key × Dv)}, PvR K L io H ps l → keysD l = some m → ∃ kvs : List (Key × V), ps = kvs.map (fun kv => (kV kv.1, kv.2)) ∧ PairR (VR K L io H) kvs m
  | _, _, _, .nil, h => by cases h; exact ⟨[], rfl, .nil⟩
  | (x, y) :: ps, (a, b) :: l, m, .cons ⟨h1, h2⟩ t, h => by
    simp only [keysD] at h
    cases hk : keyD a with
    | none => rw [hk] at h; cases h
    | some k =>
      rw [hk] at h
      obtain ⟨m', h3, rfl⟩ := map_ok h
      obtain ⟨kvs, e, r⟩ := keysD_ok t h3
      refine ⟨(k, y) :: kvs, ?_, .cons ⟨rfl, h2⟩ r⟩
      rw [List.map_cons, ← e, ← keyD_ok h1 hk]
def kDisp (l : List (Dv × Dv)) (S : Sto) : Res (List (Key × Dv)) := match keysD l with
  | some m => if m.length ≤ 15 then .ok (mergeD [] m) S else .no
  | none => .no
def dDisp (fp : DP) : DD := fun e S => bnd (fp e S) kDisp
theorem FinD.later {K : PySem.W.Frag} {g : St} {L L1 : Addr → Prop} {io io1 : List Addr} {H H1 : Hp} {S1 : Sto} {Q : V → Hp → Prop} {r : Res (List (Key × Dv))} (h : FinD K W g L io H Q r) (s : Stp L io H L1 io1 H1) (sub : ∀ x ∈ io, L x) (sr1 : SR K L1 io1 H1 S1) : FinD K W g L1 io1 H1 Q r := by
  cases r with
  | ok l S2 =>
    intro v H' L' io' s2 sr2 ⟨p, xs, e1, e2, e3⟩
    refine h v H' L' io' (s.trans s2 sub) sr2 ⟨p, xs, e1, ?_, e3⟩
    rcases s.back e2 with z | z
    · exact absurd e2 (sr1.dom p (s.up p (sub p z)))
    · exact z
  | ex c fs S2 => exact fun v H' L' io' s2 sr r2 => h v H' L' io' (s.trans s2 sub) sr r2
  | no => exact h
theorem qd_disp (h : QP X W pos ks vs fp) (hall : ks.all (·.isSome) = true := by rfl) (hl : ks.length = vs.length := by rfl) (h0 : ks ≠ [] := by exact fun z => nomatch z) (h15 : ks.length ≤ 15 := by decide) : QD X W (.Dict ks vs pos) (dDisp fp) := by
  obtain ⟨trs, p, o⟩ := h
  refine pe_imp (pe_disp p hall hl h0 h15) fun g H Q q => ?_
  obtain ⟨L0, io0, H0, L, io, e, S, fr, q⟩ := q
  intro p hp
  have s0 : Stp L io H (Ly L p) io (upd H p (.dK [])) := Stp.newV hp
  have sr0 := fr.st.newV (o := .dK []) hp
  have np : p ∉ io := fun z => fr.st.dom p (fr.st.sub p z) hp
  have q : FinD X.K W g L io H Q (bnd (fp e S) kDisp) := q
  refine o _ _ _ ⟨L0, io0, H0, Ly L p, io, e, S, fr.step s0 sr0, ?_⟩
  cases hf : fp e S with
  | no => rw [hf] at q; exact q
  | ex c fs S1 =>
    rw [hf] at q
    exact fun x H' L' io' s sr r => q x H' L' io' (s0.trans s fr.st.sub) sr r
  | ok l S1 =>
    rw [hf] at q
    intro ps H2 L2 io2 s2 sr2 r2
    have k2 : H2 p = some (.dK []) := s2.keep p _ upd_same np
    refine ⟨k2, ?_⟩
    have q : FinD X.K W g L io H Q (kDisp l S1) := q
    unfold kDisp at q
    cases hk : keysD l with
    | none => rw [hk] at q; exact q.elim
    | some m =>
      rw [hk] at q
      simp only at q
      split at q
      · rename_i hz
        obtain ⟨kvs, e1, e2⟩ := keysD_ok r2 hk
        have lp : L2 p := s2.up p (.inr rfl)
        have np2 : p ∉ io2 := fun z => by
          rcases s2.hn p z with w | w
          · exact np w
          · rw [upd_same] at w; cases w
        refine ⟨kvs, e1, by rw [PairR.len e2]; exact hz, ?_⟩
        have st : Stp L io H L2 io2 H2 := s0.trans s2 fr.st.sub
        exact q _ _ L2 io2 ⟨st.pre, st.hn, st.new, fun a u h n => by rw [upd_ne (ne_of_none h hp)]; exact st.keep a u h n, st.up⟩ (sr2.mut lp np2) ⟨p, _, rfl, hp, lp, np2, upd_same, (PairR.merge e2 .nil).mono fun v d r => r.mut lp⟩
      · exact q.elim
/-- d[k], of a frozen dict or a handle's -/
def asD (S : Sto) : Dv → Option (List (Key × Dv))
  | .dic l => some l
  | .hdl k => match S[k]? with
    | some (.dct l) => some l
    | _ => none
  | _ => none
theorem asD_ok {K : PySem.W.Frag} {L : Addr → Prop} {io : List Addr} {H : Hp} {S : Sto} {v : V} {d : Dv} {l : List (Key × Dv)} (s : SR K L io H S) (r : VR K L io H v d) (h : asD S d = some l) : ∃ a kvs, v = .ref a ∧ Rd H a (.dK kvs) ∧ PairR (VR K L io H) kvs l := by
  cases r with
  | dic nl e t => cases h; exact ⟨_, _, rfl, e, t.pair⟩
  | hdl hk =>
    rename_i a k
    cases q : S[k]? with
    | none => simp [asD, q] at h
    | some o =>
      cases o with
      | dct l' =>
        simp [asD, q] at h
        subst h
        obtain ⟨xs, e, t⟩ := s.obj k a _ hk q
        exact ⟨a, xs, rfl, .inl e, t⟩
      | _ => simp [asD, q] at h
  | _ => cases h
theorem asD_x {K : PySem.W.Frag} {L : Addr → Prop} {io : List Addr} {H : Hp} {S : Sto} {v : V} {d : Dv} {l : List (Key × Dv)} (s : SR K L io H S) (r : VX K L io H v d) (h : asD S d = some l) : ∃ a kvs, v = .ref a ∧ Rd H a (.dK kvs) ∧ PairR (VR K L io H) kvs l := by
  rcases r with r | ⟨p, o, rfl, rfl, np, ob⟩
  · exact asD_ok s r h
  · cases o with
    | dct m => cases h; obtain ⟨kvs, e, t⟩ := ob; exact ⟨p, kvs, rfl, .inl e, t⟩
    | lst m => cases h
    | ins c fs => cases h
    | ext => cases h
end
def MtS (K : PySem.W.Frag) (r : V → List V → Hp → VK → Prop) (h : Sto → Str → List Dv → Option (Dv × Sto)) : Prop :=
  ∀ (L : Addr → Prop) (io : List Addr) (H : Hp) (S : Sto) (z : Str) (vs : List V) (as : List Dv) (d : Dv) (S' : Sto) (Q : VK), SR K L io H S → VRs K L io H vs as → h S z as = some (d, S') →
    (∀ (v : V) (H' : Hp) (L' : Addr → Prop) (io' : List Addr), Stp L io H L' io' H' → SR K L' io' H' S' → VR K L' io' H' v d → Q v H') → r (.str z) vs H Q
def kStrM (h : Sto → Str → List Dv → Option (Dv × Sto)) (fa : DA) (e : Env) (d : Dv) (S : Sto) : Res Dv := match d with
  | .str z => bnd (fa e S) fun as S2 => ofO (h S2 z as)
  | _ => .no
def eStrM (h : Sto → Str → List Dv → Option (Dv × Sto)) (f : DE) (fa : DA) : DE := fun e S => bnd (f e S) (kStrM h fa e)
section
variable {X : Cx} {W : WX} {apos cpos : Pos} {o a : Expr} {es : List Expr} {f : DE} {fa : DA} {name : Str} {id : String} {r : V → List V → Hp → VK → Prop} {h : Sto → Str → List Dv → Option (Dv × Sto)}
theorem rd_strM {K : PySem.W.Frag} (hs : MtS K r h) {g : St} {H : Hp} {Q : VK} (q : rd K W (eStrM h f fa) g H Q) : tBM K "str" r (rd K W f) (rda K W fa) g H Q := by
  refine Rdg.bind (R := VR K) (k := kStrM h fa) q fun L0 io0 H0 L io H1 e S d v fr rv q => ?_
  cases rv with
  | str z =>
    refine ⟨rfl, ?_⟩
    refine Fin.bind (R := VRs K) (k := fun as S2 => ofO (h S2 z as)) fr q fun L2 io2 H2 S2 as vs s2 fr2 r2 q => ?_
    obtain ⟨d, S', h1, h2⟩ := q.opt
    exact hs L2 io2 H2 S2 z vs as d S' Q fr2.st r2 h1 h2
  | _ => exact q.elim
theorem qe_strM (slot : Slot "str" name id) (hty : typeOf (.builtin id) = pure (.type "method_descriptor")) (hm : MtR X id r) (hs : MtS X.K r h) (ho : QE X W o f) (ha : QA X W (a :: es) fa)
    (hbase : attributeBase o name X.env (eval o X.env) = eval o X.env := by rfl)
    (hfew : ((backTo cpos (starEach (a :: es) X.env)).all (fun x => !x.1) && (backToKw cpos (keywordEach [] X.env)).all (fun x => x.1.isSome)
      && decide ((a :: es).length + ([] : List Keyword).length + (if ([] : List Keyword).isEmpty then 0 else 1) < 30)) = true := by rfl)
    (hline : (apos.endLine == cpos.line) = true := by rfl) (hst : starEach (a :: es) X.env = (false, eval a X.env) :: starEach es X.env := by rfl) (hplain : (backTo cpos (starEach es X.env)).any (·.1) = false := by rfl) :
    QE X W (.Call (.Attribute o name apos) (a :: es) [] cpos) (eStrM h f fa) := pe_imp (pe_bm PySem.F.plainAttrs_str slot hty hm ho ha hbase hfew hline hst hplain) fun g H Q q => rd_strM hs q
end
def strsOf : List Dv → Option (List Str)
  | [] => some []
  | .str x :: r => (strsOf r).map fun l => x :: l
  | _ => none
theorem strsOf_ok {K : PySem.W.Frag} {L : Addr → Prop} {io : List Addr} {H : Hp} : ∀ {vs : List V} {l : List Dv} {ys : List Str}, VRs K L io H vs l → strsOf l = some ys → vs = ys.map V.str
  | _, _, _, .nil, h => by cases h; rfl
  | _, _, ys, .cons r t, h => by
    cases r with
    | str x =>
      simp only [strsOf] at h
      obtain ⟨m, h1, rfl⟩ := map_ok h
      rw [strsOf_ok t h1]
      rfl
    | _ => cases h
def joinD (S : Sto) (z : Str) (as : List Dv) : Option (Dv × Sto) := match as with
  | [d] => (asQ S d).bind fun l => (strsOf l).bind fun ys => if (ys.map (·.length)).sum + ys.length * z.length ≤ 16777216 then some (.str (Txt.join z ys), S) else none
  | _ => none
theorem mts_join {K : PySem.W.Frag} : MtS K (fun x xs H Q => ∃ a p, ∃ ys : List Str, x = .str a ∧ xs = [.ref p] ∧ (SqL K H p (ys.map V.str) ∨ SqT K H p (ys.map V.str)) ∧
    (ys.map (·.length)).sum + ys.length * a.length ≤ 16777216 ∧ Q (.str (Txt.join a ys)) H) joinD := by
  intro L io H S z vs as d S' Q sr rv e q
  cases rv with
  | nil => cases e
  | cons r t =>
    cases t with
    | cons => cases e
    | nil =>
      rename_i v dd
      simp only [joinD] at e
      cases h1 : asQ S dd with
      | none => rw [h1] at e; cases e
      | some l =>
        rw [h1] at e
        simp only [Option.bind_some] at e
        cases h2 : strsOf l with
        | none => rw [h2] at e; cases e
        | some ys =>
          rw [h2] at e
          simp only [Option.bind_some] at e
          split at e
          · rename_i hz
            cases e
            obtain ⟨p, xs, rfl, hs, t⟩ := asQ_x sr (.inl r) h1
            have ex := strsOf_ok t h2
            subst ex
            exact ⟨z, p, ys, rfl, rfl, hs, hz, q _ H L io (Stp.refl ..) sr (.str _)⟩
          · cases e
theorem vrs_strs {K : PySem.W.Frag} {L : Addr → Prop} {io : List Addr} {H : Hp} : ∀ l : List Str, VRs K L io H (l.map V.str) (l.map Dv.str)
  | [] => .nil
  | x :: l => .cons (.str x) (vrs_strs l)
def extD (l as : List Dv) : Option (List Dv × Dv) := match as with
  | [.lst m] => if l.length + m.length ≤ sizeLine then some (l ++ m, .non) else none
  | _ => none
theorem owns_ext {K : PySem.W.Frag} : OwnS K rExtend extD := by
  intro L io H S p xs l vs as l' d Q sr hp lp rx ra hh q
  cases ra with
  | nil => cases hh
  | cons r t =>
    cases t with
    | cons => simp [extD] at hh
    | nil =>
      cases r with
      | lst nl e rm =>
        simp only [extD] at hh
        split at hh
        · rename_i hl
          cases hh
          exact ⟨p, _, xs, _, rfl, rfl, hp, e, by rw [rx.len, rm.len]; exact hl, q _ _ (rx.app rm) .non⟩
        · cases hh
      | _ => cases hh
/-- len(found), found the slot's own -/
def eLenO (i : Nat) : DE := fun e S => match e[i]? with
  | some (.own (.lst l)) => .ok (.int l.length) S
  | _ => .no
/-- what is a slot's own becomes a handle's -/
def sHdl (i : Nat) : DS := fun e S => match e[i]? with
  | some (.own o) => .nx (e.set i (.va (.hdl S.length))) (S ++ [o])
  | _ => .no
end DL
namespace DL
open PySem L2
def insOf (S : Sto) : Dv → Option (Str × List (Str × Dv))
  | .obj c fs => some (c, fs)
  | .hdl k => match S[k]? with
    | some (.ins c fs) => some (c, fs)
    | _ => none
  | _ => none
section
variable {K : PySem.W.Frag} {L L' : Addr → Prop} {io io' : List Addr} {H H' : Hp} {S : Sto}
theorem insOf_ok {v : V} {d : Dv} {c : Str} {fs : List (Str × Dv)} (s : SR K L io H S) (r : VR K L io H v d) (h : insOf S d = some (c, fs)) : ∃ a dx vs, v = .ref a ∧ H a = some (.ins (He.ga K c) dx vs) ∧ PairR (VR K L io H) vs fs := by
  cases r with
  | obj nl e t => cases h; exact ⟨_, _, _, rfl, e, of_vrf t⟩
  | hdl hk =>
    rename_i a k
    cases q : S[k]? with
    | none => simp [insOf, q] at h
    | some o =>
      cases o with
      | ins c' l' =>
        simp [insOf, q] at h
        obtain ⟨rfl, rfl⟩ := h
        obtain ⟨dx, vs, e, t⟩ := s.obj k a _ hk q
        exact ⟨a, dx, vs, rfl, e, t⟩
      | _ => simp [insOf, q] at h
  | _ => cases h
theorem PairR.look {R : V → Dv → Prop} (f : Str) : ∀ {vs : List (Str × V)} {fs : List (Str × Dv)}, PairR R vs fs → (∀ d, fs.lookup f = some d → ∃ v, vs.lookup f = some v ∧ R v d) ∧ (fs.lookup f = none → vs.lookup f = none)
  | [], _, .nil => ⟨fun d h => (by simp at h), fun _ => rfl⟩
  | (k1, v) :: vs, (k2, d) :: fs, .cons ⟨h1, h2⟩ t => by
    cases (show k1 = k2 from h1)
    have ih := PairR.look f t
    rw [List.lookup_cons, List.lookup_cons]
    cases e : f == k1 with
    | true => exact ⟨fun d' h => (by cases h; exact ⟨v, rfl, h2⟩), fun h => (by cases h)⟩
    | false => exact ih
def putFD (f : Str) (d : Dv) : List (Str × Dv) → List (Str × Dv)
  | [] => [(f, d)]
  | (g, x) :: r => if g = f then (g, d) :: r else (g, x) :: putFD f d r
theorem PairR.putF {R : V → Dv → Prop} {f : Str} {v : V} {d : Dv} (h : R v d) : ∀ {vs : List (Str × V)} {fs : List (Str × Dv)}, PairR R vs fs → PairR R (L2.putF f v vs) (putFD f d fs)
  | [], _, .nil => .cons ⟨rfl, h⟩ .nil
  | (k1, w) :: vs, (k2, x) :: fs, .cons ⟨h1, h2⟩ t => by
    cases (show k1 = k2 from h1)
    unfold L2.putF putFD
    by_cases e : k1 = f
    · rw [if_pos e, if_pos e]; exact .cons ⟨rfl, h⟩ t
    · rw [if_neg e, if_neg e]; exact .cons ⟨rfl, h2⟩ (PairR.putF h t)
theorem PairR.size {R : V → Dv → Prop} : ∀ {vs : List (Str × V)} {fs : List (Str × Dv)}, PairR R vs fs → vs.length = fs.length
  | [], _, .nil => rfl
  | _ :: vs, _ :: fs, .cons _ t => by rw [List.length_cons, List.length_cons, PairR.size t]
end
/-- o.f -/
def kFld (c f : Str) (d : Dv) (S : Sto) : Res Dv := match insOf S d with
  | some (c', fs) => if c' = c then (match fs.lookup f with
    | some x => .ok x S
    | none => .no) else .no
  | none => .no
def eFld (c f : Str) (fo : DE) : DE := fun e S => bnd (fo e S) (kFld c f)
/-- what the text says of a field of a class -/
structure Fl (K : PySem.W.Frag) (c f : Str) : Prop where
  kc : Cls K (He.ga K c)
  kn : NoAttr K (He.ga K c) f
section
variable {X : Cx} {W : WX} {pos pos' : Pos} {o a : Expr} {f c : Str} {fo fv : DE}
theorem qe_fld (hf : Fl X.K c f) (h : QE X W o fo) (hb : attributeBase o f X.env (eval o X.env) = eval o X.env := by rfl) : QE X W (.Attribute o f pos) (eFld c f fo) := pe_imp (pe_fld h hb) fun g H Q q => by
  refine Rdg.bind (R := VR X.K) (k := fun _ => kFld c f) q fun L0 io0 H0 L io H1 e S d v fr rv q1 => ?_
  replace q := q1
  unfold kFld at q
  cases h1 : insOf S d with
  | none => rw [h1] at q; exact q.elim
  | some z =>
    obtain ⟨c', fs⟩ := z
    rw [h1] at q
    simp only at q
    split at q
    · rename_i hc
      subst hc
      obtain ⟨p, dx, vs, rfl, e1, e2⟩ := insOf_ok fr.st rv h1
      cases h2 : fs.lookup f with
      | none => rw [h2] at q; exact q.elim
      | some x =>
        rw [h2] at q
        obtain ⟨v, e3, e4⟩ := (e2.look f).1 x h2
        exact ⟨p, _, dx, vs, v, rfl, e1, hf.kc, hf.kn, e3, q.ok1 fr.st e4⟩
    · exact q.elim
/-- o.f = v, o a handle -/
def setF (c f : Str) (S : Sto) (o v : Dv) : Option Sto := match o with
  | .hdl k => match S[k]? with
    | some (.ins c' fs) => if c' = c ∧ fs.length < 1000 then some (S.set k (.ins c' (putFD f v fs))) else none
    | _ => none
  | _ => none
def sFldH (c f : Str) (fo fv : DE) : DS := sBind fv fun e v S => sBind fo (fun e o S2 => match setF c f S2 o v with
  | some S3 => .nx e S3
  | none => .no) e S
theorem qs_fld (hf : Fl X.K c f) (ho : QE X W o fo) (hv : QE X W a fv) (hs : swapsWith a (some (.Attribute o f pos')) pos.line X.env = pure false := by rfl) : QS X W (.Assign [.Attribute o f pos'] a pos) (sFldH c f fo fv) := ps_imp (ps_fld ho hv hs) fun D g H h => by
  refine rds_bind (R := VR X.K) (k := fun e v S => sBind fo (fun e o S2 => match setF c f S2 o v with
    | some S3 => .nx e S3
    | none => .no) e S) h fun L0 io0 H0 L io H1 e S dv v fr rv q => ?_
  refine outR.bind (R := VR X.K) (k := fun e o S2 => match setF c f S2 o dv with
    | some S3 => .nx e S3
    | none => .no) fr q fun M2 io2 H2 S2 d y s2 fr2 ro q1 => ?_
  replace q := q1
  cases d with
  | hdl k =>
    simp only [setF] at q
    cases h1 : S2[k]? with
    | none => rw [h1] at q; exact q.elim
    | some ob =>
      cases ob with
      | ins c' fs =>
        rw [h1] at q
        simp only at q
        split at q
        · rename_i S3 hz
          split at hz
          · rename_i hc
            cases hz
            obtain ⟨hc, hl⟩ := hc
            subst hc
            cases ro with
            | hdl hk =>
              rename_i p
              obtain ⟨dx, vs, e1, e2⟩ := fr2.st.obj k p _ hk h1
              have lp : M2 p := fr2.st.sub p (List.mem_of_getElem? hk)
              refine ⟨p, _, dx, vs, rfl, e1, hf.kc, hf.kn, by rw [e2.size]; exact hl, ?_⟩
              have st : Stp M2 io2 H2 M2 io2 (upd H2 p (.ins (He.ga X.K c') dx (putF f v vs))) := Stp.mutH (List.mem_of_getElem? hk)
              have sr := fr2.st.setH (ob := .ins c' (putFD f dv fs)) (o := .ins (He.ga X.K c') dx (putF f v vs)) hk ⟨dx, _, upd_same, (PairR.putF (rv.step s2 fr.st.sub) e2).mono fun v d r => r.mut lp⟩
              exact q g _ M2 io2 (st.stw fr2.st.sub) (fr2.step st sr)
          · cases hz
        · exact q.elim
      | _ => rw [h1] at q; exact q.elim
  | _ => exact q.elim
end
def kMeth (c m : Str) (dl : List Dv) (g : DF) (fa : DA) (e : Env) (d : Dv) (S : Sto) : Res Dv := match insOf S d with
  | some (c', fs) => if c' = c ∧ (fs.lookup m).isNone = true then bnd (fa e S) fun as S2 => g S2 (d :: (as ++ dl)) else .no
  | none => .no
def eMeth (c m : Str) (dl : List Dv) (g : DF) (fo : DE) (fa : DA) : DE := fun e S => bnd (fo e S) (kMeth c m dl g fa e)
mutual
def noH : Dv → Bool
  | .tup l => noHs l
  | .lst l => noHs l
  | .rol l => noHs l
  | .dic l => noHp l
  | .obj _ fs => noHf fs
  | .ext _ _ _ l => noHs l
  | .hdl _ => false
  | _ => true
def noHs : List Dv → Bool
  | [] => true
  | d :: l => noH d && noHs l
def noHp : List (Key × Dv) → Bool
  | [] => true
  | (_, d) :: l => noH d && noHp l
def noHf : List (Str × Dv) → Bool
  | [] => true
  | (_, d) :: l => noH d && noHf l
end
section
variable {K : PySem.W.Frag} {L L' : Addr → Prop} {io io' : List Addr} {H H' : Hp}
theorem VR.noh (hl : ∀ a o, H a = some o → ¬ L a → H' a = some o ∧ ¬ L' a) : ∀ {v : V} {d : Dv}, VR K L io H v d → noH d = true → VR K L' io' H' v d := by
  intro v d h
  refine VR.rec (motive_1 := fun v d _ => noH d = true → VR K L' io' H' v d) (motive_2 := fun vs ds _ => noHs ds = true → VRs K L' io' H' vs ds) (motive_3 := fun vs ds _ => noHp ds = true → VRp K L' io' H' vs ds) (motive_4 := fun vs ds _ => noHf ds = true → VRf K L' io' H' vs ds) ?_ ?_ ?_ ?_ ?_ ?_ ?_ ?_ ?_ ?_ ?_ ?_ ?_ ?_ ?_ ?_ ?_ ?_ ?_ ?_ ?_ h
  · exact fun _ => .non
  · exact fun b _ => .bl b
  · exact fun i _ => .int i
  · exact fun x _ => .str x
  · intro a xs ds nl e _ ih n
    exact .tup (hl a _ e nl).2 (hl a _ e nl).1 (ih (by simpa [noH] using n))
  · exact fun h _ ih n => .tupK h (ih (by simpa [noH] using n))
  · intro a xs ds nl e _ ih n
    exact .lst (hl a _ e nl).2 (hl a _ e nl).1 (ih (by simpa [noH] using n))
  · intro a xs ds nl r _ ih n
    obtain ⟨o, e⟩ := rd_some r
    exact .rol (hl a o e nl).2 (rd_keep r fun o e => (hl a o e nl).1) (ih (by simpa [noH] using n))
  · exact fun h _ ih n => .rolK h (ih (by simpa [noH] using n))
  · intro a xs ds nl r _ ih n
    obtain ⟨o, e⟩ := rd_some r
    exact .dic (hl a o e nl).2 (rd_keep r fun o e => (hl a o e nl).1) (ih (by simpa [noH] using n))
  · intro a dx c vs fs nl e _ ih n
    exact .obj (hl a _ e nl).2 (hl a _ e nl).1 (ih (by simpa [noH] using n))
  · exact fun h n => by simp [noH] at n
  · exact fun x _ => .glo x
  · exact fun n _ => .ty n
  · intro a t c ns vs ds os h0 hk ho _ ih n
    exact .ext h0 hk (fun p hp => ⟨(hl _ _ (ho p hp).2 (ho p hp).1).2, (hl _ _ (ho p hp).2 (ho p hp).1).1⟩) (ih (by simpa [noH] using n))
  · exact fun _ => .nil
  · exact fun _ _ h1 h2 n => by
      simp only [noHs, Bool.and_eq_true] at n
      exact .cons (h1 n.1) (h2 n.2)
  · exact fun _ => .nil
  · exact fun _ _ h1 h2 n => by
      simp only [noHp, Bool.and_eq_true] at n
      exact .cons (h1 n.1) (h2 n.2)
  · exact fun _ => .nil
  · exact fun _ _ h1 h2 n => by
      simp only [noHf, Bool.and_eq_true] at n
      exact .cons (h1 n.1) (h2 n.2)
theorem VRs.noh (hl : ∀ a o, H a = some o → ¬ L a → H' a = some o ∧ ¬ L' a) : ∀ {vs : List V} {ds : List Dv}, VRs K L io H vs ds → noHs ds = true → VRs K L' io' H' vs ds
  | _, _, .nil, _ => .nil
  | _, _, .cons h t, n => by
    simp only [noHs, Bool.and_eq_true] at n
    exact .cons (VR.noh hl h n.1) (VRs.noh hl t n.2)
theorem PairR.noh (hl : ∀ a o, H a = some o → ¬ L a → H' a = some o ∧ ¬ L' a) : ∀ {vs : List (Str × V)} {ds : List (Str × Dv)}, PairR (VR K L io H) vs ds → noHf ds = true → PairR (VR K L' io' H') vs ds
  | [], _, .nil, _ => .nil
  | _ :: _, (_, _) :: _, .cons ⟨h1, h2⟩ t, n => by
    simp only [noHf, Bool.and_eq_true] at n
    exact .cons ⟨h1, VR.noh hl h2 n.1⟩ (PairR.noh hl t n.2)
end
/-- the class c can be made: __init__ answers as g (the new instance first) -/
def FK (P : Program) (w : World) (K : PySem.W.Frag) (mg : Str → Option Value) (base : Heap) (k : Nat) (c : Str) (dl : List Dv) (g : DF) : Prop :=
  ∃ (f : Addr) (fd : FuncData) (ps : List Str) (ds : List Value) (dvs : List V), FnG P w K mg base k f fd ps (spD K g) ∧ mg c = some (.ref (He.ga K c)) ∧ Mk K (He.ga K c) f ∧ Binds K fd ps ds ∧ Vals dvs ds ∧ ∀ L io H, VRs K L io H dvs dl
def kMkE (c : Str) (S : Sto) : Res Dv → Res Dv
  | .ok .non (.ins c' fs :: _) => if c' = c ∧ noHf fs = true then .ok (.obj c fs) S else .no
  | .ex x fs (_ :: _) => if noHf fs = true then .ex x fs S else .no
  | _ => .no
def kMk (c : Str) (g : DF) (as : List Dv) (S : Sto) : Res Dv := if noHs as = true then kMkE c S (g [.ins c []] (.hdl 0 :: as)) else .no
/-- C(..), a frozen instance: made apart from the store -/
def eMk (c : Str) (dl : List Dv) (g : DF) (fa : DA) : DE := fun e S => bnd (fa e S) fun as S1 => kMk c g (as ++ dl) S1
theorem mk_spD {K : PySem.W.Frag} {W : WX} {c : Str} {g : DF} {st : St} {L : Addr → Prop} {io : List Addr} {H : Hp} {S : Sto} {vs : List V} {l : List Dv} {Q : VK} (sr : SR K L io H S) (r : VRs K L io H vs l) (q : Fin K W (VR K) st L io H Q (kMk c g l S)) {x dx : Addr} (hx : H x = none) (hdx : H dx = none) (hn : dx ≠ x) :
    spD K g (.ref x :: vs) (upd (upd H dx (.own x)) x (.ins (He.ga K c) dx [])) (fun v H2 => v = .non ∧ Q (.ref x) H2) (fun c d H' => W c d st H') := by
  unfold kMk at q
  split at q
  · rename_i hno
    have hH : ∀ a o, H a = some o → (upd (upd H dx (.own x)) x (.ins (He.ga K c) dx [])) a = some o := fun a o e => by
      rw [upd_ne (ne_of_none e hx), upd_ne (ne_of_none e hdx)]; exact e
    have hl1 : ∀ a o, H a = some o → ¬ L a → (upd (upd H dx (.own x)) x (.ins (He.ga K c) dx [])) a = some o ∧ ¬ Ly L x a := fun a o e n => ⟨hH a o e, fun z => z.elim n (ne_of_none e hx)⟩
    refine ⟨Ly L x, [x], [.ins c []], .hdl 0 :: l, ⟨rfl, by simp, fun a ha => .inr (by simpa using ha), fun a ha => ?_, fun k a o h1 h2 => ?_⟩, .cons (.hdl rfl) (VRs.noh hl1 r hno), ?_⟩
    · rcases ha with ha | ha
      · cases e : H a with
        | none => exact absurd e (sr.dom a ha)
        | some o => rw [hH a o e]; exact fun z => nomatch z
      · rw [ha, upd_same]; exact fun z => nomatch z
    · cases k with
      | zero => cases h1; cases h2; exact ⟨dx, [], upd_same, .nil⟩
      | succ n => simp at h1
    · have back : ∀ {H' : Hp} {io' : List Addr} (s' : Stp (Ly L x) [x] (upd (upd H dx (.own x)) x (.ins (He.ga K c) dx [])) (Lx (Ly L x) io') io' H'), Stp L io H L io H' ∧ SR K L io H' S := by
        intro H' io' s'
        have keep : ∀ a o, H a = some o → H' a = some o := fun a o e => s'.keep a o (hH a o e) fun z => by
          simp at z; exact ne_of_none e hx z
        have st1 : Stp L io H L io H' := ⟨⟨[], by simp⟩, fun _ h => .inl h, fun _ h => .inl h, fun a o e _ => keep a o e, fun _ h => h⟩
        refine ⟨st1, ⟨sr.len, sr.nd, sr.sub, fun a ha => ?_, fun k a o h1 h2 => ?_⟩⟩
        · cases e : H a with
          | none => exact absurd e (sr.dom a ha)
          | some o => rw [keep a o e]; exact fun z => nomatch z
        · exact (sr.obj k a o h1 h2).mono (fun u e => keep a u e) fun v d r => r.step st1 sr.sub
      cases hg : g [.ins c []] (.hdl 0 :: l) with
      | no => rw [hg] at q; exact q
      | ex c' fs S' =>
        rw [hg] at q
        intro xo H' io' s' sr' rx
        have ex : ∃ o r, S' = o :: r ∧ noHf fs = true := by
          unfold kMkE at q
          split at q
          · rename_i heq; cases heq
          · rename_i x1 fs1 o1 r1 heq
            cases heq
            split at q
            · rename_i hz; exact ⟨o1, r1, rfl, hz⟩
            · exact q.elim
          · exact q.elim
        obtain ⟨o, r, rfl, hfs⟩ := ex
        simp only [kMkE, hfs, if_true] at q
        obtain ⟨st1, sr1⟩ := back s'
        obtain ⟨a, ws, e1, e2, e3, e4⟩ := rx
        exact q xo H' L io st1 sr1 ⟨a, ws, e1, fun z => e2 (.inl (.inl z)), e3, PairR.noh (fun a o e n => ⟨e, fun z => n (.inl (.inl z))⟩) e4 hfs⟩
      | ok d S' =>
        rw [hg] at q
        intro v H' io' s' sr' rv
        have ex : ∃ c' fs r, d = .non ∧ S' = .ins c' fs :: r ∧ c' = c ∧ noHf fs = true := by
          unfold kMkE at q
          split at q
          · rename_i c' fs r heq
            cases heq
            split at q
            · rename_i hz; exact ⟨c', fs, r, rfl, rfl, hz.1, hz.2⟩
            · exact q.elim
          · rename_i heq; cases heq
          · exact q.elim
        obtain ⟨c', fs, r, rfl, rfl, rfl, hfs⟩ := ex
        simp only [kMkE, hfs, and_self, if_true] at q
        cases rv
        refine ⟨rfl, ?_⟩
        obtain ⟨st1, sr1⟩ := back s'
        have hio : io'[0]? = some x := by
          obtain ⟨m, rfl⟩ := s'.pre
          rfl
        obtain ⟨dx', ws, e1, e2⟩ := sr'.obj 0 x _ hio rfl
        exact q (.ref x) H' L io st1 sr1 (.obj (sr.fresh hx) e1 (vrf_of (PairR.noh (fun a o e n => ⟨e, fun z => n (.inl (.inl z))⟩) e2 hfs)))
  · exact q.elim
theorem make_guards {A : Around} {C : Addr} {us : List Value} {kw : List (Str × Value)} : (A.under (.builtin "type.__call__" ⟨.ref C :: us, kw⟩)).guards = A.guards := by
  first
    | rfl
    | (simp [Around.under, Code.guards, pushGuards, Code.isGuard, guardIds])
theorem RoomG.make {k : Nat} {A : Around} (h : RoomG (k + 1) A) (C : Addr) (us : List Value) (kw : List (Str × Value)) : RoomG k (A.under (.builtin "type.__call__" ⟨.ref C :: us, kw⟩)) := ⟨h.r.make C us kw, make_guards.trans h.g⟩
section
variable {X : Cx} {W : WX} {p pos : Pos} {e : Expr} {es : List Expr} {c : Str} {fa : DA} {dl : List Dv} {g : DF} {k : Nat}
/-- C(..) runs: the new instance, then its __init__ -/
theorem run_mk {C f : Addr} {fd : FuncData} {ps : List Str} {sp : Sp} {dvs : List V} {ds : List Value} {pins : List (Addr × Obj)} {st : St} {H : Hp} {s : Shared} {Q : VK} {us : List Value} {vs : List V} (M : Mk X.K C f) (F : FnG X.prog X.w X.K X.mg X.base k f fd ps sp) (hr : RoomG (k + 1) X.A) (hb : Binds X.K fd ps ds) (hd : Vals dvs ds) (tk : Takes X W)
    (I : Inv X pins st H s) (r : Vals vs us)
    (h : ∀ x dx, H x = none → H dx = none → dx ≠ x → sp (.ref x :: (vs ++ dvs)) (upd (upd H dx (.own x)) x (.ins C dx [])) (fun v H2 => v = .non ∧ Q (.ref x) H2) (fun c d H' => W c d st H')) :
    wpAny (model X.prog X.w) X.A (call (.ref C) us) (EP X pins st Q) X.xe s := by
  have n1 := s.heap.objs.size
  have z := h (s.heap.objs.size + 1) s.heap.objs.size (I.hok.fresh (Nat.le_succ _)) (I.hok.fresh (Nat.le_refl _)) (Nat.ne_of_lt (Nat.lt_succ_self _))
  have J := Inv.made (C := C) I
  have r2 : Vals (V.ref (s.heap.objs.size + 1) :: (vs ++ dvs)) (Value.ref (s.heap.objs.size + 1) :: (us ++ ds)) := .cons rfl (r.append hd)
  have hl := (F.len _ _ _ _ z).symm.trans r2.length
  refine wpAny_call (make_map (f := f) I.kIn M.makes M.init (beq_iff_eq.mp M.fn) (codeAny_mono (F.run _ X.stack _ _ ⟨_, []⟩ _ _ _ _ (hr.make C us []) (J.env0.make C us []) (hb _ (Value.ref (s.heap.objs.size + 1) :: us) J.kIn hl.symm) r2 z) fun rr s' q => ?_))
  match rr, q with
  | .error e, q => exact tk e s' (XE.of_call J (fun _ _ _ q => q) q)
  | .ok .next, q => exact q.elim
  | .ok .brk, q => exact q.elim
  | .ok .cont, q => exact q.elim
  | .ok (.ret u), q =>
    obtain ⟨v, H', I3, rv, ev, q3⟩ := J.after q
    subst ev
    exact ⟨rv, V.ref (s.heap.objs.size + 1), H', I3, rfl, q3⟩
theorem qe_mkA {kk : List Dv → Sto → Res Dv} (hk : ∀ {st : St} {L : Addr → Prop} {io : List Addr} {H : Hp} {S : Sto} {vs : List V} {l : List Dv} {Q : VK}, SR X.K L io H S → VRs X.K L io H vs l → Fin X.K W (VR X.K) st L io H Q (kk l S) → ∀ {x dx : Addr}, H x = none → H dx = none → dx ≠ x →
      spD X.K g (.ref x :: vs) (upd (upd H dx (.own x)) x (.ins (He.ga X.K c) dx [])) (fun v H2 => v = .non ∧ Q (.ref x) H2) (fun c d H' => W c d st H')) (F : FK X.prog X.w X.K X.mg X.base k c dl g) (hr : RoomG (k + 1) X.A) (tk : Takes X W) (ha : QA X W (e :: es) fa) (hg : Gl X c) (hdb : (c == ("__debug__" : Str)) = false)
    (he : starEach (e :: es) X.env = (false, eval e X.env) :: starEach es X.env) (hpl : (backTo pos (starEach es X.env)).any (·.1) = false) : QE X W (.Call (.Name c p) (e :: es) [] pos) (fun e S => bnd (fa e S) fun as S1 => kk (as ++ dl) S1) := by
  obtain ⟨f, fd, ps, ds, dvs, F, hm, M, hb, hv, hd⟩ := F
  refine ⟨fun pins s st H Q I q => wpAny_Call_Name_kw (ld_glob I hg hm ?_ hdb)⟩
  refine PySem.W.callWith_K (h₀ := X.base) I.ok.mod.kin M.kp (thn (ha.run pos pins s st H _ I ?_) fun us s1 ⟨vs, H1, I1, r, q⟩ => ⟨I1.kIn, run_mk (Q := Q) M F hr hb hv tk I1 r q⟩) he hpl
  exact Rdg.bind (R := VRs X.K) (k := fun _ as S1 => kk (as ++ dl) S1) q fun L0 io0 H0 L io H1 e S as vs fr rv q x dx hx hdx hn => hk fr.st (rv.app (hd _ _ _)) q hx hdx hn
theorem qe_mk (F : FK X.prog X.w X.K X.mg X.base k c dl g) (hr : RoomG (k + 1) X.A) (tk : Takes X W) (ha : QA X W (e :: es) fa) (hg : Gl X c := by rfl) (hdb : (c == ("__debug__" : Str)) = false := by decide)
    (he : starEach (e :: es) X.env = (false, eval e X.env) :: starEach es X.env := by rfl) (hpl : (backTo pos (starEach es X.env)).any (·.1) = false := by rfl) : QE X W (.Call (.Name c p) (e :: es) [] pos) (eMk c dl g fa) := qe_mkA mk_spD F hr tk ha hg hdb he hpl
end
end DL
namespace DL
open PySem L2
structure Dfn where
  ad : PySem.W.Frag → Addr
  name : Str
  qual : Str
  params : Arguments
  body : List Stmt
  scope : Scope
  dfl : List He.Dv := []
  kwd : List (Str × He.Dv) := []
def fnA (K : PySem.W.Frag) (a : Addr) : He.FnW := match K.lookup a with
  | some ⟨_, _, .func fd, _⟩ => some (fd.name, fd.qualname, fd.params, fd.body, fd.scope, fd.globals, fd.closure, fd.builtins)
  | _ => none
def Dfn.val (d : Dfn) : He.FnW := some (d.name, d.qual, d.params, .stmts d.body, d.scope, mainGlobals, [], builtinsNs)
def Dfn.dvs (K : PySem.W.Frag) (d : Dfn) : List V := d.dfl.map (He.Dv.v K)
def Dfn.kws (K : PySem.W.Frag) (d : Dfn) : List (Str × V) := d.kwd.map fun q => (q.1, q.2.v K)
def Dfn.ok (K : PySem.W.Frag) (d : Dfn) : Bool := PySem.W.keepIn K (.ref (d.ad K)) && (match K.lookup (d.ad K) with
  | some ⟨_, _, .func fd, _⟩ => PySem.W.codeIn K fd.code d.qual && (He.dflB K fd.defaults (d.dvs K) && He.kwdB K fd.kwdefaults (d.kws K))
  | _ => false)
theorem Dfn.funD {K : PySem.W.Frag} {d : Dfn} (e : fnA K (d.ad K) = d.val) (c : d.ok K = true) : ∃ fd, FunD K d.name d.qual d.params d.body d.scope (d.dvs K) (d.kws K) (d.ad K) fd := by
  obtain ⟨kp, c2⟩ := He.ba c
  unfold fnA at e
  cases q : K.lookup (d.ad K) with
  | none =>
    rw [q] at c2
    cases c2
  | some o =>
    obtain ⟨oc, od, dt, osl⟩ := o
    rw [q] at c2 e
    cases dt with
    | func fd =>
      obtain ⟨n1, n2, n3, n4, n5, n6, n7, n8, n9, n10, n11, n12, n13, n14, n15⟩ := fd
      have e2 : (some (n1, n2, n3, n4, n5, n6, n7, n15) : He.FnW) = some (d.name, d.qual, d.params, .stmts d.body, d.scope, mainGlobals, [], builtinsNs) := e
      simp only [Option.some.injEq, Prod.mk.injEq] at e2
      obtain ⟨h1, h2, h3, h4, h5, h6, h7, h8⟩ := e2
      subst h1 h2 h3 h4 h5 h6 h7 h8
      have c3 : (PySem.W.codeIn K n13 d.qual && (He.dflB K n8 (d.dvs K) && He.kwdB K n9 (d.kws K))) = true := c2
      obtain ⟨k1, k2⟩ := He.ba c3
      obtain ⟨k3, k4⟩ := He.ba k2
      exact ⟨_, ⟨oc, od, n8, n9, n10, n11, n12, n13, n14, osl, rfl, q, k1, He.dflB_ok k3, He.kwdB_ok k4⟩, kp⟩
    | _ => cases c2
abbrev AlN : Type := (Bool × List He.FnW) × List (Option (List (Option (Str × Int))))
def obsN (fa : List Ft) (fn : List Dfn) (ts : List He.Tab) (K : PySem.W.Frag) : AlN := (((fa.all fun f => f.ok K) && fn.all fun d => d.ok K, fn.map fun d => fnA K (d.ad K)), ts.map fun t => He.dicW K (t.1 K))
def valN (fn : List Dfn) (ts : List He.Tab) (w : World) : AlN := ((true, fn.map Dfn.val), ts.map fun t => some (He.keysIn w.params t.2))
def SaysN (fa : List Ft) (fn : List Dfn) (ts : List He.Tab) (w : World) (K : PySem.W.Frag) : Prop := obsN fa fn ts K = valN fn ts w
section
variable {fa : List Ft} {fn : List Dfn} {ts : List He.Tab} {w : World} {K : PySem.W.Frag}
theorem SaysN.fact (c : SaysN fa fn ts w K) (i : Nat) {f : Ft} (h : fa[i]? = some f := by rfl) : f.ok K = true := by
  have c1 := (He.ba (show ((fa.all fun f => f.ok K) && fn.all fun d => d.ok K) = true from congrArg (fun z : AlN => z.1.1) c)).1
  exact List.all_eq_true.mp c1 f (List.mem_of_getElem? h)
theorem SaysN.def_ (c : SaysN fa fn ts w K) (i : Nat) {d : Dfn} (h : fn[i]? = some d := by rfl) : ∃ fd, FunD K d.name d.qual d.params d.body d.scope (d.dvs K) (d.kws K) (d.ad K) fd := by
  have c2 := (He.ba (show ((fa.all fun f => f.ok K) && fn.all fun d => d.ok K) = true from congrArg (fun z : AlN => z.1.1) c)).2
  have e : fn.map (fun d => fnA K (d.ad K)) = fn.map Dfn.val := congrArg (fun z : AlN => z.1.2) c
  have e2 : (fn.map fun d => fnA K (d.ad K))[i]? = (fn.map Dfn.val)[i]? := by rw [e]
  rw [List.getElem?_map, List.getElem?_map, h] at e2
  exact Dfn.funD (Option.some.inj e2) (List.all_eq_true.mp c2 d (List.mem_of_getElem? h))
end
/-- the head's facts of classes -/
def faB (f : He.Fa) : Ft := .any fun K => f.ok K
theorem cls_f {K : PySem.W.Frag} {x : Str} (c : (faB (.cls x)).ok K = true) : Cls K (He.ga K x) := He.cls_ok c
theorem noat_f {K : PySem.W.Frag} {x f : Str} (c : (faB (.noat x f)).ok K = true) : NoAttr K (He.ga K x) f := He.noat_ok c
theorem mkr_f {K : PySem.W.Frag} {x : Str} (c : (faB (.mkr x)).ok K = true) : Mk K (He.ga K x) (He.ma K (He.ga K x) "__init__") := He.mkr_ok c
end DL
namespace DL
open PySem PySem.Spec PyProof.Rows L2
def tabD (l : List (Str × Dv)) (d : Dv) (S : Sto) : Res Dv := match d with
  | .str z => (match l.lookup z with
    | some x => .ok x S
    | none => .no)
  | _ => .no
def eTab (l : List (Str × Dv)) (fi : DE) : DE := fun e S => bnd (fi e S) (tabD l)
def revD (d : Dv) (S : Sto) : Res Dv := match d with
  | .tup l => .ok (.tup l.reverse) S
  | _ => .no
def eRevT (f : DE) : DE := fun e S => bnd (f e S) revD
def idxS (z : Str) : List Dv → Option Nat
  | [] => none
  | .str y :: l => if y = z then some 0 else (idxS z l).map (· + 1)
  | _ => none
def allS : List Dv → Bool
  | [] => true
  | .str _ :: l => allS l
  | _ => false
def tixE (l : List Dv) (x : Dv) (S : Sto) : Res Dv := match x with
  | .str z => if allS l then (match idxS z l with
    | some n => .ok (.int (n : Nat)) S
    | none => .no) else .no
  | _ => .no
end DL
namespace DL
open PySem PySem.Spec PyProof.Rows L2
def eCm (c : Str) (g : DF) (fa : DA) : DE := fun e S => bnd (fa e S) fun l S1 => g S1 (.glo c :: l)
/-- the class c can be made, __init__ answers as g; B: how its arguments are bound -/
def FI (P : Program) (w : World) (K : PySem.W.Frag) (mg : Str → Option Value) (base : Heap) (k : Nat) (c : Str) (B : PySem.W.Frag → Addr → FuncData → List Str → Prop) (g : DF) : Prop :=
  ∃ (f : Addr) (fd : FuncData) (ps : List Str), FnG P w K mg base k f fd ps (spD K g) ∧ mg c = some (.ref (He.ga K c)) ∧ Mk K (He.ga K c) f ∧ B K f fd ps
/-- .. values alone: dl, the data behind them -/
def PoB (K : PySem.W.Frag) (B : PySem.W.Frag → Addr → FuncData → List Str → Prop) (dl : List Dv) : Prop :=
  ∀ f fd ps, B K f fd ps → ∃ (ds : List Value) (dvs : List V), Binds K fd ps ds ∧ Vals dvs ds ∧ ∀ L io H, VRs K L io H dvs dl
theorem FI.fk {P : Program} {w : World} {K : PySem.W.Frag} {mg : Str → Option Value} {base : Heap} {k : Nat} {c : Str} {B : PySem.W.Frag → Addr → FuncData → List Str → Prop} {g : DF} {dl : List Dv} (F : FI P w K mg base k c B g) (b : PoB K B dl) : FK P w K mg base k c dl g := by
  obtain ⟨f, fd, ps, F, hm, M, hB⟩ := F
  obtain ⟨ds, dvs, h1, h2, h3⟩ := b f fd ps hB
  exact ⟨f, fd, ps, ds, dvs, F, hm, M, h1, h2, h3⟩
section
variable {P : Program} {w : World} {K : PySem.W.Frag} {mg : Str → Option Value} {base : Heap} {c m qual : Str} {st : Stmt} {N ps : List Str} {k np n : Nat} {fb : DS}
/-- a def's binding of values alone, no defaults -/
abbrev BindN (m qual : Str) (st : Stmt) (ps : List Str) : Prop := ∀ (kV doc pm : Value) (an : Option Addr) (cdv ct : Value) (us : List Value), us.length = ps.length → bindArgs (PySem.W.fnOf m qual (defArgs st) (defBody st) (defScope st) .none kV doc pm an cdv ct) ⟨us, []⟩ = pure (ps.zip us)
/-- __init__ as the text says it -/
def InB (qual : Str) (st : Stmt) (ps : List Str) (dvs : PySem.W.Frag → List V) (kws : PySem.W.Frag → List (Str × V)) : PySem.W.Frag → Addr → FuncData → List Str → Prop := fun K f fd ps' => ps' = ps ∧ FunD K "__init__" qual (defArgs st) (defBody st) (defScope st) (dvs K) (kws K) f fd
theorem fi_mk {dvs : PySem.W.Frag → List V} {kws : PySem.W.Frag → List (Str × V)} (F : ∃ fd, FunD K "__init__" qual (defArgs st) (defBody st) (defScope st) (dvs K) (kws K) (He.ma K (He.ga K c) "__init__") fd) (hm : mg c = some (.ref (He.ga K c))) (M : Mk K (He.ga K c) (He.ma K (He.ga K c) "__init__")) (Sc : FnScope N ps (defScope st))
    (hnp : ps.length = np) (hn : N.length = n) (hb : BodyG P w K mg base N qual (defScope st) (He.ma K (He.ga K c) "__init__") (k + 1) (defBody st) fb) : FI P w K mg base (k + 2) c (InB qual st ps dvs kws) (runF np n fb) := by
  subst hnp hn
  obtain ⟨fd, F⟩ := F
  exact ⟨_, fd, ps, fn_mk F Sc hb, hm, M, rfl, F⟩
theorem fi_no {dvs : PySem.W.Frag → List V} {kws : PySem.W.Frag → List (Str × V)} (F : ∃ fd, FunD K "__init__" qual (defArgs st) (defBody st) (defScope st) (dvs K) (kws K) (He.ma K (He.ga K c) "__init__") fd) (hm : mg c = some (.ref (He.ga K c))) (M : Mk K (He.ga K c) (He.ma K (He.ga K c) "__init__")) :
    FI P w K mg base k c (InB qual st ps dvs kws) gNo := by
  obtain ⟨fd, F⟩ := F
  exact ⟨_, fd, ps, FnG.never spD_no, hm, M, rfl, F⟩
theorem pob0 (hbi : BindN "__init__" qual st ps) {kws : PySem.W.Frag → List (Str × V)} : PoB K (InB qual st ps (fun _ => []) kws) [] := fun f fd ps' ⟨e, F⟩ => by
  subst e
  exact ⟨[], [], F.bindsN hbi, .nil, fun _ _ _ => .nil⟩
end
def readB (c : Str) : Ft := .any fun K => PySem.W.readsIn K (He.ga K c) (.type "type")
theorem read_f {K : PySem.W.Frag} {c : Str} (h : (readB c).ok K = true) : ClX.CRead K (He.ga K c) (.type "type") := by
  have h0 : PySem.W.readsIn K (He.ga K c) (.type "type") = true := h
  refine ⟨h0, ?_⟩
  unfold PySem.W.readsIn at h0
  obtain ⟨h, _⟩ := He.ba h0
  obtain ⟨h, _⟩ := He.ba h
  obtain ⟨h, h3⟩ := He.ba h
  obtain ⟨_, h2⟩ := He.ba h
  unfold PySem.W.specialIn
  rw [beq_iff_eq.mp h2, Option.bind_some]
  exact beq_iff_eq.mp h3
end DL
namespace DL
open PySem PySem.Spec PyProof.Rows L2
/-- a source: a list (true) or a tuple -/
def SqS (K : PySem.W.Frag) (H : Hp) (b : Bool) (a : Addr) (xs : List V) : Prop := match b with
  | true => SqL K H a xs
  | false => SqT K H a xs
def SrcAt (b : Bool) (h : Heap) (a : Addr) (its : Array Value) : Prop := match b with
  | true => h.IsList a its
  | false => h.IsTuple a its
def IsIt (b : Bool) (h : Heap) (it a : Addr) (i : Nat) : Prop := match b with
  | true => h.IsListIter it a i
  | false => h.IsTupleIter it a i
def itObj (b : Bool) (a : Addr) : Obj := match b with
  | true => { cls := .type "list_iterator", data := .fields #[.ref a, .int 0 0] }
  | false => { cls := .type "tuple_iterator", data := .fields #[.ref a, .int 0 0] }
section
variable {X : Cx} {pins : List (Addr × Obj)} {σ : L2.St} {H : Hp} {s : Shared} {b : Bool} {a it : Addr} {xs ys : List V}
theorem src_at (I : Inv X pins σ H s) (hq : SqS X.K H b a xs) : ∃ its, Vals xs its ∧ SrcAt b s.heap a its.toArray := by
  cases b with
  | true => obtain ⟨its, rv, p, _⟩ := I.list hq; exact ⟨its, rv, p.isList⟩
  | false => obtain ⟨its, rv, p, _⟩ := I.tuple hq; exact ⟨its, rv, p⟩
theorem src_inj (I : Inv X pins σ H s) (h1 : SqS X.K H b a xs) (h2 : SqS X.K H b a ys) : xs = ys := by
  cases b with
  | true => exact I.list_inj h1 h2
  | false => exact I.tuple_inj h1 h2
theorem src_lt {h : Heap} {its : Array Value} (p : SrcAt b h a its) : a < h.objs.size := by
  cases b with
  | true => obtain ⟨_, q, _⟩ := (show h.IsList a its from p); exact Heap.lt_size q
  | false => obtain ⟨_, q, _⟩ := (show h.IsTuple a its from p); exact Heap.lt_size q
theorem it_obj {h : Heap} {i : Nat} (p : IsIt b h it a i) : ∃ o, h.get? it = some o ∧ ∀ v, o.data ≠ .cell v := by
  cases b with
  | true => obtain ⟨o, q, _, d⟩ := (show h.IsListIter it a i from p); exact ⟨o, q, fun v z => by rw [d] at z; cases z⟩
  | false => obtain ⟨o, q, _, d⟩ := (show h.IsTupleIter it a i from p); exact ⟨o, q, fun v z => by rw [d] at z; cases z⟩
theorem it_keep {h h' : Heap} {i : Nat} (p : IsIt b h it a i) (k : ∀ o, h.get? it = some o → h'.get? it = some o) : IsIt b h' it a i := by
  cases b with
  | true => exact Heap.IsListIter.at (show h.IsListIter it a i from p) k
  | false => exact Heap.IsTupleIter.at (show h.IsTupleIter it a i from p) k
theorem it_new {h : Heap} (e : h.get? it = some (itObj b a)) : IsIt b h it a 0 := by
  cases b with
  | true => exact ⟨_, e, rfl, rfl⟩
  | false => exact ⟨_, e, rfl, rfl⟩
theorem src_begins (b : Bool) (a : Addr) (its : Array Value) : Begins (.ref a) (itObj b a) fun h => SrcAt b h a its := by
  cases b with
  | true => exact begins_list a its
  | false => exact begins_tuple a its
theorem src_draws {prog : Program} {w : World} {A : Around} (hh : A.handled = none) (b : Bool) (it a : Addr) (hne : a ≠ it) (its : Array Value) :
    Draws prog w A it [it, a] its.size (fun i v => its[i]? = some v) (fun i h => IsIt b h it a i ∧ SrcAt b h a its) := by
  cases b with
  | true => exact Draws.list hh it a hne its
  | false => exact Draws.tuple hh it a hne its
end
theorem meets_enum1 {v : Value} {o : Obj} {H : Heap → Prop} (B : Begins v o H) :
    Meets (Builtin.«enumerate.__new__» ⟨[.type "enumerate", v], []⟩) (fun _ R s => H s.heap ∧
      R (.ok (.ret (.ref (s.heap.push o).objs.size))) { s with heap := (s.heap.push o).push { cls := .type "enumerate", data := .fields #[.none, .bool false, .ref s.heap.objs.size, rawInt 0, .none, .none] } }) :=
  .of_wp fun prog w A R s h => by
    obtain ⟨hp, g, d, tk, os⟩ := s; obtain ⟨h1, h⟩ := h
    have hsub := sub_enumerate
    have q1 : ∀ {A' : Around} {E : Value → Shared → Prop} {Q : Value → Shared → Prop}, Q (.ref hp.objs.size) ⟨hp.push o, g, d, tk, os⟩ → wpAny (model prog w) A' (pyIter v) Q E ⟨hp, g, d, tk, os⟩ :=
      fun q => B.iter prog w _ _ ⟨hp, g, d, tk, os⟩ _ h1 q
    wp_walk using q1
    refine wpAny_stack_any fun st => wpAny_pure ?_
    split
    · rename_i c _ _ _ _ _
      cases (c == Value.type "enumerate")
      · wp_walk using q1
        exact ⟨_, rfl, h⟩
      · wp_walk using q1
        exact ⟨_, rfl, h⟩
    · wp_walk using q1
      exact ⟨_, rfl, h⟩
theorem enum_begins1 {prog : Program} {w : World} {A : Around} {E : Value → Shared → Prop} {s : Shared} {v : Value} {o : Obj} {H : Heap → Prop} {Q : Value → Shared → Prop} (B : Begins v o H) (h1 : H s.heap)
    (h : ∀ h', IsEnum h' (s.heap.objs.size + 1) s.heap.objs.size 0 .none → h'.get? s.heap.objs.size = some o → h'.objs.size = s.heap.objs.size + 2 →
      (∀ b o, s.heap.get? b = some o → h'.get? b = some o) → Q (.ref (s.heap.objs.size + 1)) { s with heap := h' }) :
    wpAny (model prog w) A (call (.type "enumerate") [v]) Q E s := by
  refine callType_new F.called_enumerate (by decide) (F.typeCall_enumerate_1 _) (F.newCall_enumerate_1 _) (fun obj => F.args_object_init_2 obj _) F.entry_enumerate_new
    (meets_enum1 B) ⟨h1, ?_⟩
  have hz : (s.heap.push o).objs.size = s.heap.objs.size + 1 := Heap.size_push ..
  show _ ∧ _
  rw [hz]
  have he : IsEnum ((s.heap.push o).push { cls := .type "enumerate", data := .fields #[.none, .bool false, .ref s.heap.objs.size, rawInt 0, .none, .none] }) (s.heap.objs.size + 1) s.heap.objs.size 0 .none := by
    have := Heap.get?_push_size (s.heap.push o) (o := { cls := .type "enumerate", data := .fields #[.none, .bool false, .ref s.heap.objs.size, rawInt 0, .none, .none] }) rfl
    rw [hz] at this; exact this
  refine ⟨⟨_, he, rfl⟩, h _ he (Heap.get?_push_of_some _ (Heap.get?_push_size _ B.free)) (by rw [Heap.size_push, hz]) fun b o x => Heap.get?_push_of_some _ (Heap.get?_push_of_some _ x)⟩
/-- the source at a as it stands at each turn, each item in a new pair -/
def IteS (K : PySem.W.Frag) (b : Bool) (a : Addr) : It :=
  ⟨fun i H => ∃ (xs : List V) (x : V), SqS K H b a xs ∧ xs[i]? = some x, fun i H v H' => ∃ T x, v = .ref T ∧ H T = none ∧ H' = upd H T (.tup [.int (i : Nat), x]) ∧ ∀ xs, SqS K H b a xs → xs[i]? = some x, fun i H => ∃ xs : List V, SqS K H b a xs ∧ xs.length = i⟩
theorem turn_enumS {P : Program} {w : World} {K : PySem.W.Frag} {elts : List Expr} {kk : Nat} {tpos : Pos} (b : Bool) (a e it : Addr) (hne : e ≠ it) (ha : a ≠ it) (hae : a ≠ e) :
    Turn P w K (.Tuple elts kk tpos) (IteS K b a) [e, it] e (fun i h => (∃ old, IsEnum h e it ((i : Nat) : Int) old) ∧ IsIt b h it a i) where
  mem := by simp
  obj := fun i h st c hc => by
    obtain ⟨⟨old, he⟩, hi⟩ := st
    have e' : c = e ∨ c = it := by simpa using hc
    rcases e' with z | z
    · rw [z]; exact ⟨_, he, fun v q => nomatch q⟩
    · rw [z]; exact it_obj hi
  keep := fun i h h' st k => let ⟨⟨old, he⟩, hi⟩ := st; ⟨⟨old, k e (by simp) _ he⟩, it_keep hi fun o q => k it (by simp) o q⟩
  item := by
    intro X hP hw hK hc i pins s σ H E I hf st hg
    subst hP hw hK
    obtain ⟨⟨old, he⟩, hit⟩ := st
    obtain ⟨xs, x, hq, hx⟩ := hg
    obtain ⟨its, rv, p⟩ := src_at I hq
    obtain ⟨u, hu, ru⟩ := rv.get hx
    have hel : e < s.heap.objs.size := Heap.lt_size he
    have hil : it < s.heap.objs.size := by obtain ⟨_, q, _⟩ := it_obj hit; exact Heap.lt_size q
    have hl := rv.length
    have hlt : i < its.toArray.size := by
      have := (List.getElem?_eq_some_iff.mp hx).1
      simp; omega
    refine wpAny_pyNext_enum_itemD (src_draws (A := X.A.in1) (I.ok.hd hc) b it a ha its.toArray) he ⟨hit, p⟩ hlt hne (by simp [hne, Ne.symm hae]) fun y h' tk hy ho hit' hT hsz hk => ?_
    have hyu : y = u := by
      have : its[i]? = some y := by simpa using hy
      rw [hu] at this
      exact (Option.some.inj this).symm
    subst hyu
    refine ⟨_, rfl, wpAny_letOwnedTupleGo_enum (s := { s with heap := h', toks := tk + 1 }) ho fun h'' he' sb => ?_⟩
    have hT2 : h''.get? s.heap.objs.size = some { cls := .type "tuple", data := .seq #[.int i tk, y] } := (sb.2 _ (Nat.ne_of_gt hel)).trans hT
    have new : ObjOk X.prog X.w (upd H s.heap.objs.size (.tup [.int (i : Nat), x])) h'' s.heap.objs.size (.tup [.int (i : Nat), x]) :=
      ⟨by show 2 ≤ sizeLine; decide, [.int i tk, y], .cons ⟨_, rfl⟩ (.cons ru .nil), ⟨_, hT2, rfl, _, rfl⟩⟩
    have I1 : Inv X pins σ (upd H s.heap.objs.size (.tup [.int (i : Nat), x])) { s with heap := h'', toks := tk + 1 } :=
      I.turnedNew (ch := [e, it]) (fun b ob hb q => (sb.2 b (fun z => hb (by simp [z]))).trans (hk b ob (fun z => hb (by simp [z])) (fun z => hb (by simp [z])) q)) hf (Nat.le_refl _) new
    refine ⟨.ref s.heap.objs.size, _, I1, rfl, ⟨_, x, rfl, I.hok.fresh (Nat.le_refl _), rfl, fun ys hy => by rw [src_inj I hy hq]; exact hx⟩, ⟨⟨y, ?_⟩, it_keep hit'.1 fun o q => (sb.2 it (Ne.symm hne)).trans q⟩, fun b hb => ?_⟩
    · have e1 : ((i + 1 : Nat) : Int) = (i : Int) + 1 := by omega
      rw [e1]; exact he'
    · have hb' : b < s.heap.objs.size := by
        have e' : b = e ∨ b = it := by simpa using hb
        rcases e' with z | z
        · rw [z]; exact hel
        · rw [z]; exact hil
      rw [upd_ne (Nat.ne_of_lt hb')]
      exact (hf b hb).1
  done := by
    intro X hP hw hK hc i pins s σ H E I hf st hg
    subst hP hw hK
    obtain ⟨⟨old, he⟩, hit⟩ := st
    obtain ⟨xs, hq, hx⟩ := hg
    obtain ⟨its, rv, p⟩ := src_at I hq
    obtain ⟨f0, f1, f2, f3, f4, f5⟩ := hf it (by simp)
    have hl := rv.length
    have hz : i = its.toArray.size := by simp; omega
    refine wpAny_pyNext_enum_endD (src_draws (A := X.A.in1) (I.ok.hd hc) b it a ha its.toArray) he ⟨by rw [← hz]; exact hit, p⟩ fun h' eb => ⟨rfl, I.turned (t' := s.toks) (fun b o hb q => eb b o hb q) f0 f1 f3 f4 f5⟩
  self := fun A i s Q E st h => let ⟨⟨_, he⟩, _⟩ := st; wpAny_pyIter_enum he h
def iEnumS (K : PySem.W.Frag) (ta : TA) : TI := fun σ H R => ta σ H fun vs H1 => ∃ b a xs, vs = [.ref a] ∧ SqS K H1 b a xs ∧ R (IteS K b a) H1
theorem pi_enumS {X : Cx} {e : Expr} {ta : TA} {p pos tpos : Pos} {elts : List Expr} {kk : Nat} (hg : Gl X "enumerate") (hm : X.mg "enumerate" = none) (ha : PA X [e] ta) (hs : starEach [e] X.env = [(false, eval e X.env)] := by rfl) :
    PI X (.Tuple elts kk tpos) (.Call (.Name "enumerate" p) [e] [] pos) (iEnumS X.K ta) := by
  refine ⟨fun pins s σ H R I h => ?_⟩
  refine Call_ (ld_blt I hg hm boot_enumerate (PyProof.Rows.callWith_type1 (thn (ha.run pos pins s σ H _ I h) fun us s1 ⟨vs, H1, I1, r1, q1⟩ => ?_) hs rfl))
  obtain ⟨b, a, xs, ex, hq, q⟩ := q1
  subst ex
  cases r1 with
  | cons r rr =>
    cases rr
    cases r
    obtain ⟨its, rv, p'⟩ := src_at I1 hq
    have hlt := src_lt p'
    refine enum_begins1 (src_begins b a its.toArray) p' fun h' he hit hsz hk => wpAny_pyIter_enum he ?_
    have I2 : Inv X pins σ H1 { s1 with heap := h' } := I1.kept (t' := s1.toks) hk
    refine ⟨s1.heap.objs.size + 1, [s1.heap.objs.size + 1, s1.heap.objs.size], _, _, H1, rfl, I2, turn_enumS b a (s1.heap.objs.size + 1) s1.heap.objs.size (Nat.succ_ne_self _) (Nat.ne_of_lt hlt) (Nat.ne_of_lt (Nat.lt_succ_of_lt hlt)), ⟨⟨.none, he⟩, it_new hit⟩, fun b hb => ?_, q⟩
    have e' : b = s1.heap.objs.size + 1 ∨ b = s1.heap.objs.size := by simpa using hb
    have hle : s1.heap.objs.size ≤ b := by
      rcases e' with z | z
      · rw [z]; exact Nat.le_add_right _ _
      · rw [z]; exact Nat.le_refl _
    exact I1.fpOk hle (I1.hok.fresh hle)
section
variable {K : PySem.W.Frag} {L : Addr → Prop} {io : List Addr} {H : Hp}
/-- a list or tuple that no handle holds -/
def asSq : Dv → Option (Bool × List Dv)
  | .lst l => some (true, l)
  | .rol l => some (true, l)
  | .tup l => some (false, l)
  | _ => none
theorem asSq_ok {v : V} {d : Dv} {b : Bool} {l : List Dv} (r : VR K L io H v d) (h : asSq d = some (b, l)) : ∃ a xs, v = .ref a ∧ SqS K H b a xs ∧ VRs K L io H xs l := by
  cases d with
  | lst m => cases h; exact asF_ok r rfl
  | rol m => cases h; exact asF_ok r rfl
  | tup m => cases h; exact r.tupS
  | _ => cases h
def enumD (l : List Dv) : List Dv := l.mapIdx fun i d => .tup [.int (i : Nat), d]
theorem walk_enum {a : Addr} {d : Dv} {b : Bool} {l : List Dv} (r : VR K L io H (.ref a) d) (h : asSq d = some (b, l)) : WalkR K L io H (IteS K b a) (enumD l) where
  go := fun L1 io1 H1 S i q s sr hq => by
    obtain ⟨a', xs, e, hs, t⟩ := asSq_ok (r.stw s) h
    cases e
    unfold enumD at hq
    rw [List.getElem?_mapIdx] at hq
    cases hl : l[i]? with
    | none => rw [hl] at hq; cases hq
    | some y =>
      rw [hl] at hq
      cases hq
      obtain ⟨v, h1, h2⟩ := t.get hl
      refine ⟨⟨xs, v, hs, h1⟩, fun x H2 ⟨T, w, e1, hT, e2, y1⟩ => ?_⟩
      subst e1 e2
      have hv := y1 xs hs
      rw [h1] at hv
      cases hv
      exact ⟨sr.alloc hT, Stp.alloc hT, VR.newT sr hT (.cons (.int _) (.cons h2 .nil))⟩
  stop := fun L1 io1 H1 s => by
    obtain ⟨a', xs, e, hs, t⟩ := asSq_ok (r.stw s) h
    cases e
    refine ⟨xs, hs, ?_⟩
    unfold enumD
    rw [List.length_mapIdx, t.len]
def zipD (l m : List Dv) : List Dv := (l.zip m).map fun q => .tup [q.1, q.2]
end
def enumR : List Dv → Sto → Res (List Dv)
  | [d], S => match asSq d with
    | some (_, l) => .ok (enumD l) S
    | none => .no
  | _, _ => .no
def zipR : List Dv → Sto → Res (List Dv)
  | [d, d2], S => match asSq d, asSq d2 with
    | some (_, l), some (_, m) => .ok (zipD l m) S
    | _, _ => .no
  | _, _ => .no
def iEnum' (fa : DA) : DL := fun e S => bnd (fa e S) enumR
def iZip' (fa : DA) : DL := fun e S => bnd (fa e S) zipR
section
variable {X : Cx} {W : WX} {pos p tpos : Pos} {a b : Expr} {elts : List Expr} {kk : Nat}
theorem qi_enum (hm : X.mg "enumerate" = none) {fa : DA} (ha : QA X W [a] fa) (hg : Gl X "enumerate" := by rfl) (hs : starEach [a] X.env = [(false, eval a X.env)] := by rfl) : QI X W (.Tuple elts kk tpos) (.Call (.Name "enumerate" p) [a] [] pos) (iEnum' fa) := by
  have hp := pi_enumS (elts := elts) (kk := kk) (tpos := tpos) (p := p) (pos := pos) hg hm ha hs
  refine ⟨fun pins s g H R I q => hp.run pins s g H R I ?_⟩
  obtain ⟨L0, io0, H0, L, io, e, S, fr, q⟩ := q
  refine FinI.bind (R := VRs X.K) (k := enumR) fr q fun L1 io1 H1 S1 l v s1 fr1 r1 q => ?_
  cases r1 with
  | nil => exact q.elim
  | cons r t =>
    cases t with
    | nil =>
      rename_i w d
      replace q : FinI X.K W g L1 io1 H1 R (match asSq d with
        | some (_, l) => .ok (enumD l) S1
        | none => .no) := q
      cases hd : asSq d with
      | none => rw [hd] at q; exact q.elim
      | some z =>
        obtain ⟨bb, l⟩ := z
        rw [hd] at q
        obtain ⟨a', xs, rfl, hs, t⟩ := asSq_ok r hd
        exact ⟨bb, a', xs, rfl, hs, q _ H1 L1 io1 (Stp.refl ..) fr1.st (walk_enum r hd)⟩
    | cons => exact q.elim
end
end DL
namespace DL
open PySem L2
end DL
namespace DL
open PySem L2
def eChn (h h' : Sto → Dv → Dv → Option (Dv × Sto)) (f1 f2 f3 : DE) : DE := fun e S => bnd (f1 e S) fun a S1 => bnd (f2 e S1) fun b S2 => bnd (ofO (h S2 a b)) fun z S3 => match z with
  | .bl true => bnd (f3 e S3) fun c S4 => ofO (h' S4 b c)
  | .bl false => .ok (.bl false) S3
  | _ => .no
theorem rd_chn {K : PySem.W.Frag} {W : WX} {r r' : R2} {h h' : Sto → Dv → Dv → Option (Dv × Sto)} {f1 f2 f3 : DE} (ho : OpS K r h) (ho' : OpS K r' h') {g : St} {H : Hp} {Q : VK} (q : rd K W (eChn h h' f1 f2 f3) g H Q) : tChain r r' (Rdg K W (VX K) f1) (Rdg K W (VX K) f2) (Rdg K W (VX K) f3) g H Q := by
  unfold eChn at q
  refine Rdg.bind (R := VX K) (k := fun e a S1 => bnd (f2 e S1) fun b S2 => bnd (ofO (h S2 a b)) fun z S3 => match z with
    | .bl true => bnd (f3 e S3) fun c S4 => ofO (h' S4 b c)
    | .bl false => .ok (.bl false) S3
    | _ => .no) q fun L0 io0 H0 L io H1 e S a v fr ra q => ?_
  refine Fin.bind (R := VX K) (k := fun b S2 => bnd (ofO (h S2 a b)) fun z S3 => match z with
    | .bl true => bnd (f3 e S3) fun c S4 => ofO (h' S4 b c)
    | .bl false => .ok (.bl false) S3
    | _ => .no) fr q fun L2 io2 H2 S2 b w s2 fr2 rb q => ?_
  cases hz : h S2 a b with
  | none => rw [hz] at q; exact q.elim
  | some z =>
    obtain ⟨z, S3⟩ := z
    rw [hz] at q
    refine ho L2 io2 H2 S2 v w a b z S3 _ fr2.st (ra.step s2 fr.st.sub) rb hz fun u H3 L3 io3 s3 sr3 r3 => ?_
    cases r3 with
    | bl k =>
      refine ⟨k, rfl, ?_⟩
      have fr3 := fr2.step s3 sr3
      cases k with
      | true =>
        rw [if_pos rfl]
        have q3 := Fin.later (L := L2) (io := io2) (H := H2) q s3 fr2.st.sub
        refine Fin.bind (R := VX K) (k := fun c S4 => ofO (h' S4 b c)) fr3 q3 fun L4 io4 H4 S4 c y s4 fr4 rc q => ?_
        obtain ⟨d, S5, h1, h2⟩ := q.opt
        exact ho' L4 io4 H4 S4 w y b c d S5 Q fr4.st ((rb.step s3 fr2.st.sub).step s4 fr3.st.sub) rc h1 h2
      | false =>
        rw [if_neg Bool.false_ne_true]
        exact q (.bl false) H3 L3 io3 s3 sr3 (.bl false)
    | _ => exact q.elim
section
variable {X : Cx} {W : WX} {pos : Pos} {a b c : Expr} {f1 f2 f3 : DE} {r r' : R2} {h h' : Sto → Dv → Dv → Option (Dv × Sto)} {op op' : CmpOp}
theorem qe_chn (ho : OpR X (compareOp op) r) (hs : OpS X.K r h) (ho' : OpR X (compareOp op') r') (hs' : OpS X.K r' h') (ha : QX X W a f1) (hb : QX X W b f2) (hc : QX X W c f3) (hm : lastMarks [op, op'] [b, c] = false := by with_unfolding_all rfl) :
    QE X W (.Compare a [op, op'] [b, c] pos) (eChn h h' f1 f2 f3) := pe_imp (pe_chain ho ho' ha hb hc hm) fun g H Q q => rd_chn hs hs' q
theorem qt_chn (ho : OpR X (compareOp op) r) (hs : OpS X.K r h) (ho' : OpR X (compareOp op') r') (hs' : OpS X.K r' h') (ha : QX X W a f1) (hb : QX X W b f2) (hc : QX X W c f3) (hm : lastMarks [op, op'] [b, c] = false := by with_unfolding_all rfl) :
    QT X W (.Compare a [op, op'] [b, c] pos) (tVal (eChn h h' f1 f2 f3)) := pt_imp (pt_chain ho ho' ha hb hc hm) fun g H Q q => by
  have z := rd_tval q
  exact (show tTest (tChain r r' (Rdg X.K W (VX X.K) f1) (Rdg X.K W (VX X.K) f2) (Rdg X.K W (VX X.K) f3)) g H Q from rd_chn hs hs' z)
theorem os_lt {K : PySem.W.Frag} : OpS K (rI0 fun i j => .bl (decide (i < j))) (pu2 ltD) := ops_int0 fun _ _ _ _ _ => .bl _
theorem os_le {K : PySem.W.Frag} : OpS K (rI0 fun i j => .bl (decide (i ≤ j))) (pu2 leD) := ops_int0 fun _ _ _ _ _ => .bl _
end
def rngK (neg : Bool) (a : Dv) (l : List Dv) (S : Sto) : Res Dv := match a, l with
  | .int i, [.int lo, .int hi] => .ok (.bl (if neg then !decide (lo ≤ i ∧ i < hi) else decide (lo ≤ i ∧ i < hi))) S
  | _, _ => .no
def eRngIn (neg : Bool) (f1 : DE) (fa : DA) : DE := fun e S => bnd (f1 e S) fun a S1 => bnd (fa e S1) fun l S2 => rngK neg a l S2
theorem op_notIn_rng {X : Cx} : OpR X (compareOp .NotIn) (fun x y H Q => ∃ i a lo hi, x = V.int i ∧ y = V.ref a ∧ H a = some (.rng lo hi) ∧ Q (.bl (!decide (lo ≤ i ∧ i < hi))) H) := by
  rintro pins s σ H x y v u Q I rx ry ⟨i, a, lo, hi, rfl, rfl, ha, q⟩
  obtain ⟨k, rfl⟩ := rx
  cases (show u = Value.ref a from ry)
  obtain ⟨t1, t2, t3, ho⟩ := I.hok a _ ha
  show wpAny _ _ (do return Value.bool (!(← contains (Value.ref a) (Value.int i k)))) _ _ s
  refine wpAny_bind (wpAny_contains_slot (T := "range") ⟨_, ho, rfl⟩ PySem.F.slot_range_contains (PySem.call_meets PySem.F.slot_range_contains ⟨_, ho, rfl⟩ PySem.F.entry_range_contains (PySem.F.args_range_contains_2 _ _) (q_contains a lo hi i t1 t2 t3 k) ⟨ho, ?_⟩))
  refine wpAny_truthy_bool (wpAny_pure ⟨.bl _, H, I, rfl, ?_⟩)
  rw [place1]
  exact q
section
variable {X : Cx} {W : WX} {p p2 pos : Pos} {a b c : Expr} {f1 : DE} {fa : DA}
theorem rd_rng {K : PySem.W.Frag} {neg : Bool} {r : R2} (hr : ∀ (H : Hp) (Q : VK) (i : Int) (a : Addr) (lo hi : Int), H a = some (.rng lo hi) → Q (.bl (if neg then !decide (lo ≤ i ∧ i < hi) else decide (lo ≤ i ∧ i < hi))) H → r (.int i) (.ref a) H Q) {g : St} {H : Hp} {Q : VK} (q : rd K W (eRngIn neg f1 fa) g H Q) :
    tOp r (Rdg K W (VX K) f1) (tCB (fun vs H Q => ∃ i j, vs = [V.int i, V.int j] ∧ ∀ p, H p = none → Q (.ref p) (upd H p (.rng i j))) (Rdg K W (VXs K) fa)) g H Q := by
  refine Rdg.bind (R := VX K) (k := fun e a S1 => bnd (fa e S1) fun l S2 => rngK neg a l S2) q fun L0 io0 H0 L io H1 e S d v fr rv q => ?_
  refine Fin.bind (R := VXs K) (k := fun l S2 => rngK neg d l S2) fr q fun L2 io2 H2 S2 l vs s2 fr2 rvs q => ?_
  unfold rngK at q
  split at q
  · rename_i i lo hi _
    cases (rv.step s2 fr.st.sub).vr rfl
    cases rvs with
    | cons r1 t1 =>
      cases t1 with
      | cons r2 t2 =>
        cases t2
        cases r1.vr rfl
        cases r2.vr rfl
        exact ⟨lo, hi, rfl, fun p hp => hr _ _ i p lo hi upd_same (q _ _ L2 io2 (Stp.alloc hp) (fr2.st.alloc hp) (.bl _))⟩
  · exact q.elim
theorem qt_niRng (hm : X.mg "range" = none) (ha : QX X W a f1) (hb : QXs X W [b, c] fa) (hg : Gl X "range" := by rfl) (he : starEach [b, c] X.env = (false, eval b X.env) :: starEach [c] X.env := by rfl) (hpl : (backTo p2 (starEach [c] X.env)).any (·.1) = false := by rfl) (hmk : behindInMarks .NotIn (.Call (.Name "range" p) [b, c] [] p2) = false := by rfl) :
    QT X W (.Compare a [.NotIn] [.Call (.Name "range" p) [b, c] [] p2] pos) (tVal (eRngIn true f1 fa)) := pt_imp (pt_cmpR op_notIn_rng ha (pe_callTy cr_range2 hg hm (by decide +kernel) hb (by decide) (by decide) he hpl) hmk) fun g H Q q => rd_rng (fun H Q i a lo hi h q => ⟨i, a, lo, hi, rfl, rfl, h, q⟩) (rd_tval q)
end
def strD (S : Sto) : List Dv → Option (Dv × Sto)
  | [.int i] => if i.natAbs.log2 < 1920 then some (.str (toString i), S) else none
  | [.str x] => some (.str x, S)
  | _ => none
theorem cas_str {K : PySem.W.Frag} : CaS K (fun xs H Q => (∃ i, xs = [.int i] ∧ i.natAbs.log2 < 1920 ∧ Q (.str (toString i)) H) ∨ ∃ a, xs = [.str a] ∧ Q (.str a) H) strD := by
  intro L io H S xs l d S' Q sr rv e q
  cases rv with
  | nil => cases e
  | cons r t =>
    cases t with
    | cons r2 t2 => rename_i dd _ _ _ _; cases dd <;> cases e
    | nil =>
      rename_i v dd
      cases dd with
      | int i =>
        simp only [strD] at e
        split at e
        · rename_i h
          cases e; cases r.vr rfl
          exact .inl ⟨i, rfl, h, q _ H L io (Stp.refl ..) sr (.str _)⟩
        · cases e
      | str x => cases e; cases r.vr rfl; exact .inr ⟨x, rfl, q _ H L io (Stp.refl ..) sr (.str _)⟩
      | _ => cases e
theorem call_strA {X : Cx} : CallR X (.type "str") (fun xs H Q => (∃ i, xs = [.int i] ∧ i.natAbs.log2 < 1920 ∧ Q (.str (toString i)) H) ∨ ∃ a, xs = [.str a] ∧ Q (.str a) H) := CallR.or call_str_int SkE.call_str_str
/-- data as a whole, dicts too -/
def keyP : Key → PyData
  | .inl i => .int i
  | .inr x => .str x
mutual
inductive Dq (K : PySem.W.Frag) (H : Hp) : V → PyData → Prop
  | non : Dq K H .non .none
  | bl (b : Bool) : Dq K H (.bl b) (.bool b)
  | int (i : Int) : Dq K H (.int i) (.int i)
  | str (x : Str) : Dq K H (.str x) (.str x)
  | lst {a : Addr} {xs : List V} {ds : List PyData} : SqL K H a xs → DqAll K H xs ds → Dq K H (.ref a) (.list ds)
  | tup {a : Addr} {xs : List V} {ds : List PyData} : SqT K H a xs → DqAll K H xs ds → Dq K H (.ref a) (.tuple ds)
  | dct {a : Addr} {kvs : List (Key × V)} {ds : List PyData} : Rd H a (.dK kvs) → DqAll K H (kvs.map (·.2)) ds → Dq K H (.ref a) (.dict ((kvs.map fun q => keyP q.1).zip ds))
inductive DqAll (K : PySem.W.Frag) (H : Hp) : List V → List PyData → Prop
  | nil : DqAll K H [] []
  | cons {v : V} {vs : List V} {d : PyData} {ds : List PyData} : Dq K H v d → DqAll K H vs ds → DqAll K H (v :: vs) (d :: ds)
end
theorem DqAll.len {K : PySem.W.Frag} {H : Hp} : ∀ {vs : List V} {ds : List PyData}, DqAll K H vs ds → vs.length = ds.length
  | _, _, .nil => rfl
  | _, _, .cons _ t => by rw [List.length_cons, List.length_cons, t.len]
section
variable {X : Cx} {pins : List (Addr × Obj)} {σ : St} {H : Hp} {s : Shared}
/-- keys of a dict are read -/
theorem keys_read {P : Program} {w : World} {h : Heap} : ∀ {es : List DictEntry} {vs : List (Key × Value)}, Pairs (mixKind P w) es vs → ReadsAll h (es.map (·.key)) (vs.map fun q => keyP q.1) []
  | _, _, .nil => .nil
  | e :: es, (k, v) :: vs, .cons hk hv t => by
    have h1 : Reads h e.key (keyP k) [] := by
      rcases keyIs_shape (k := k) (v := e.key) hk with ⟨i, u, rfl, e1⟩ | ⟨x, u, rfl, e1⟩
      · rw [e1]; exact .int i u
      · rw [e1]; exact .str x u
    exact .cons (as := []) h1 (keys_read t)
theorem vals_at {P : Program} {w : World} : ∀ {es : List DictEntry} {vs : List (Key × Value)}, Pairs (mixKind P w) es vs → es.map (·.val) = vs.map (·.2)
  | _, _, .nil => rfl
  | e :: es, (k, v) :: vs, .cons hk hv t => by
    have hv : e.val = v := hv
    rw [List.map_cons, List.map_cons, hv, vals_at t]
theorem kv_keys : ∀ {kvs : List (Key × V)} {vs : List (Key × Value)}, KV kvs vs → kvs.map (fun q => keyP q.1) = vs.map (fun q => keyP q.1) ∧ Vals (kvs.map (·.2)) (vs.map (·.2))
  | _, _, .nil => ⟨rfl, .nil⟩
  | _, _, .cons r t => by
    obtain ⟨h1, h2⟩ := kv_keys t
    exact ⟨by rw [List.map_cons, List.map_cons, h1, r.1], .cons r.2 h2⟩
theorem Dq.reads (I : Inv X pins σ H s) (hs : SysB X.base) {v : V} {d : PyData} (h : Dq X.K H v d) : ∀ u, RelV v u → ∃ as, Reads s.heap u d as ∧ sysModules ∉ as := by
  refine Dq.rec (motive_1 := fun v d _ => ∀ u, RelV v u → ∃ as, Reads s.heap u d as ∧ sysModules ∉ as) (motive_2 := fun vs ds _ => ∀ us, Vals vs us → ∃ as, ReadsAll s.heap us ds as ∧ sysModules ∉ as) ?_ ?_ ?_ ?_ ?_ ?_ ?_ ?_ ?_ h
  · intro u r; cases r; exact ⟨_, Reads.none, fun z => nomatch z⟩
  · intro b u r; cases r; exact ⟨_, Reads.bool b, fun z => nomatch z⟩
  · intro i u r; obtain ⟨t, rfl⟩ := r; exact ⟨_, Reads.int i t, fun z => nomatch z⟩
  · intro x u r; obtain ⟨t, rfl⟩ := r; exact ⟨_, Reads.str x t, fun z => nomatch z⟩
  · intro a xs ds hl _ ih u r
    cases r
    obtain ⟨its, rv, ⟨o, n, ho, hc, _, hd⟩, _⟩ := I.list hl
    obtain ⟨as, hr, hn⟩ := ih its rv
    refine ⟨_, Reads.list ho hc hd hr, fun z => ?_⟩
    rcases List.mem_cons.mp z with z | z
    · obtain ⟨mm, o', es, ep, e1, e2, _⟩ := hs
      have e3 := I.bk _ _ e1
      rw [z, ho] at e3
      cases e3
      rw [hd] at e2
      cases e2
    · exact hn z
  · intro a xs ds hl _ ih u r
    cases r
    obtain ⟨its, rv, ⟨o, ho, hc, n, hd⟩, _⟩ := I.tuple hl
    obtain ⟨as, hr, hn⟩ := ih its rv
    exact ⟨_, Reads.tuple ho hc hd hr, hn⟩
  · intro a kvs ds ha hv ih u r
    cases r
    obtain ⟨_, hsm, vs, kv, o, es, ep, e1, e2, e3, _, e5, _⟩ := dk_rd I.hok ha
    obtain ⟨k1, k2⟩ := kv_keys kv
    have hl : (kvs.map fun q => keyP q.1).length = ds.length := by rw [List.length_map, ← hv.len, List.length_map]
    obtain ⟨as, hr, hn⟩ := ih _ k2
    have q1 : ReadsAll s.heap (es.toList.map (·.key)) (((kvs.map fun q => keyP q.1).zip ds).map (·.1)) [] := by
      rw [List.map_fst_zip (Nat.le_of_eq hl), k1]; exact keys_read e5
    have q2 : ReadsAll s.heap (es.toList.map (·.val)) (((kvs.map fun q => keyP q.1).zip ds).map (·.2)) as := by
      rw [List.map_snd_zip (Nat.le_of_eq hl.symm), vals_at e5]; exact hr
    refine ⟨_, Reads.dict e1 e2.1 e3 q1 q2, fun z => ?_⟩
    simp only [List.cons_append, List.nil_append, List.mem_cons] at z
    rcases z with z | z
    · rw [z] at hsm; simp at hsm
    · exact hn z
  · intro us r; cases r; exact ⟨_, ReadsAll.nil, fun z => nomatch z⟩
  · intro v vs d ds _ _ ih1 ih2 us r
    cases r with
    | cons r1 r2 =>
      obtain ⟨as, q1, n1⟩ := ih1 _ r1
      obtain ⟨bs, q2, n2⟩ := ih2 _ r2
      exact ⟨_, ReadsAll.cons q1 q2, fun z => (List.mem_append.mp z).elim n1 n2⟩
end
mutual
def toQ : Dv → Option PyData
  | .non => some .none
  | .bl b => some (.bool b)
  | .int i => some (.int i)
  | .str x => some (.str x)
  | .tup l => (toQs l).map .tuple
  | .lst l => (toQs l).map .list
  | .rol l => (toQs l).map .list
  | .dic l => (toQp l).map fun ds => .dict ((l.map fun q => keyP q.1).zip ds)
  | .obj _ _ => none
  | .hdl _ => none
  | .glo _ => none
  | .ty _ => none
  | .ext _ _ _ _ => none
def toQs : List Dv → Option (List PyData)
  | [] => some []
  | d :: l => (toQ d).bind fun p => (toQs l).map fun ps => p :: ps
def toQp : List (Key × Dv) → Option (List PyData)
  | [] => some []
  | (_, d) :: l => (toQ d).bind fun p => (toQp l).map fun ps => p :: ps
end
theorem toQp_eq : ∀ l : List (Key × Dv), toQp l = toQs (l.map (·.2))
  | [] => rfl
  | (k, d) :: l => by
    rw [List.map_cons]
    unfold toQp toQs
    rw [toQp_eq l]
section
variable {K : PySem.W.Frag} {L : Addr → Prop} {io : List Addr} {H : Hp} {S : Sto}
theorem toQ_ok {v : V} {d : Dv} (r : VR K L io H v d) : ∀ p, toQ d = some p → Dq K H v p := by
  refine VR.rec (motive_1 := fun v d _ => ∀ p, toQ d = some p → Dq K H v p) (motive_2 := fun vs ds _ => ∀ ps, toQs ds = some ps → DqAll K H vs ps) (motive_3 := fun kvs l _ => (∀ ps, toQs (l.map (·.2)) = some ps → DqAll K H (kvs.map (·.2)) ps) ∧ (l.map fun q => keyP q.1) = kvs.map fun q => keyP q.1) (motive_4 := fun _ _ _ => True)
    ?_ ?_ ?_ ?_ ?_ ?_ ?_ ?_ ?_ ?_ ?_ ?_ ?_ ?_ ?_ ?_ ?_ ?_ ?_ ?_ ?_ r
  · intro p e; cases e; exact .non
  · intro b p e; cases e; exact .bl b
  · intro b p e; cases e; exact .int b
  · intro b p e; cases e; exact .str b
  · intro a xs ds _ h _ ih p e
    simp only [toQ] at e
    obtain ⟨ps, h1, rfl⟩ := map_ok e
    exact .tup (SqT.of h) (ih ps h1)
  · intro a xs ds h _ ih p e
    simp only [toQ] at e
    obtain ⟨ps, h1, rfl⟩ := map_ok e
    exact .tup (h.1 H) (ih ps h1)
  · intro a xs ds _ h _ ih p e
    simp only [toQ] at e
    obtain ⟨ps, h1, rfl⟩ := map_ok e
    exact .lst (SqL.of h) (ih ps h1)
  · intro a xs ds _ h _ ih p e
    simp only [toQ] at e
    obtain ⟨ps, h1, rfl⟩ := map_ok e
    exact .lst (.inl h) (ih ps h1)
  · intro a xs ds h _ ih p e
    simp only [toQ] at e
    obtain ⟨ps, h1, rfl⟩ := map_ok e
    exact .lst (h H) (ih ps h1)
  · intro a kvs l _ h _ ih p e
    simp only [toQ, toQp_eq] at e
    obtain ⟨ps, h1, rfl⟩ := map_ok e
    rw [ih.2]
    exact .dct h (ih.1 ps h1)
  · intro a dx c vs fs _ _ _ _ p e; simp [toQ] at e
  · intro a k _ p e; simp [toQ] at e
  · intro x p e; simp [toQ] at e
  · intro x p e; simp [toQ] at e
  · intro a t c ns vs ds os _ _ _ _ _ p e; simp [toQ] at e
  · intro ps e; simp [toQs] at e; subst e; exact .nil
  · intro v vs d ds _ _ ih1 ih2 ps e
    simp only [toQs] at e
    cases h1 : toQ d with
    | none => rw [h1] at e; cases e
    | some p =>
      rw [h1] at e
      obtain ⟨ps', h2, rfl⟩ := map_ok e
      exact .cons (ih1 p h1) (ih2 ps' h2)
  · exact ⟨fun ps e => by simp [toQs] at e; subst e; exact .nil, rfl⟩
  · intro k v vs d ds _ _ ih1 ih2
    refine ⟨fun ps e => ?_, by rw [List.map_cons, List.map_cons, ih2.2]⟩
    simp only [List.map_cons, toQs] at e
    cases h1 : toQ d with
    | none => rw [h1] at e; cases e
    | some p =>
      rw [h1] at e
      obtain ⟨ps', h2, rfl⟩ := map_ok e
      exact .cons (ih1 p h1) (ih2.1 ps' h2)
  · trivial
  · intros; trivial
theorem derefQ_all (n : Nat) (ih : ∀ (d : Dv) (v : V) (p : PyData), VR K L io H v d → toQ (deref n S d) = some p → Dq K H v p) : ∀ (l : List Dv) (vs : List V) (ps : List PyData), VRs K L io H vs l → toQs (l.map (deref n S)) = some ps → DqAll K H vs ps
  | [], vs, ps, r, e => by cases r; simp [toQs] at e; subst e; exact .nil
  | d :: l, vs, ps, r, e => by
    cases r with
    | cons h t =>
      simp only [toQs, List.map_cons] at e
      cases q : toQ (deref n S d) with
      | none => rw [q] at e; cases e
      | some p =>
        rw [q] at e
        obtain ⟨ps', q2, rfl⟩ := map_ok e
        exact .cons (ih d _ p h q) (derefQ_all n ih l _ ps' t q2)
theorem pair_vals : ∀ {kvs : List (Key × V)} {l : List (Key × Dv)}, PairR (VR K L io H) kvs l → VRs K L io H (kvs.map (·.2)) (l.map (·.2)) ∧ (l.map fun q => keyP q.1) = kvs.map fun q => keyP q.1
  | _, _, .nil => ⟨.nil, rfl⟩
  | _, _, .cons r t => by
    obtain ⟨h1, h2⟩ := pair_vals t
    exact ⟨.cons r.2 h1, by rw [List.map_cons, List.map_cons, h2, r.1]⟩
theorem derefQ_dic (n : Nat) (ih : ∀ (d : Dv) (v : V) (p : PyData), VR K L io H v d → toQ (deref n S d) = some p → Dq K H v p) {l : List (Key × Dv)} {kvs : List (Key × V)} {a : Addr} {p : PyData} (h : Rd H a (.dK kvs)) (t : PairR (VR K L io H) kvs l) (e : toQ (.dic (l.map fun q => (q.1, deref n S q.2))) = some p) : Dq K H (.ref a) p := by
  simp only [toQ, toQp_eq] at e
  obtain ⟨ps, h1, rfl⟩ := map_ok e
  obtain ⟨t1, t2⟩ := pair_vals t
  have e1 : (l.map fun q => (q.1, deref n S q.2)).map (·.2) = (l.map (·.2)).map (deref n S) := by simp [List.map_map, Function.comp_def]
  have e2 : ((l.map fun q => (q.1, deref n S q.2)).map fun q => keyP q.1) = kvs.map fun q => keyP q.1 := by rw [← t2]; simp [List.map_map, Function.comp_def]
  rw [e1] at h1
  rw [e2]
  exact .dct h (derefQ_all n ih _ _ ps t1 h1)
theorem derefQ (sr : SR K L io H S) : ∀ (n : Nat) (d : Dv) (v : V) (p : PyData), VR K L io H v d → toQ (deref n S d) = some p → Dq K H v p
  | 0, d, v, p, r, e => toQ_ok r p e
  | n + 1, .tup l, v, p, r, e => by
    obtain ⟨a, xs, rfl, s, t⟩ := r.tupS
    simp only [deref, toQ] at e
    obtain ⟨ps, q, rfl⟩ := map_ok e
    exact .tup s (derefQ_all n (derefQ sr n) l xs ps t q)
  | n + 1, .lst l, v, p, r, e => by
    simp only [deref, toQ] at e
    obtain ⟨ps, q, rfl⟩ := map_ok e
    cases r with
    | lst nl h t => exact .lst (SqL.of h) (derefQ_all n (derefQ sr n) l _ ps t q)
  | n + 1, .rol l, v, p, r, e => by
    simp only [deref, toQ] at e
    obtain ⟨ps, q, rfl⟩ := map_ok e
    cases r with
    | rol nl h t => exact .lst (.inl h) (derefQ_all n (derefQ sr n) l _ ps t q)
    | rolK h t => exact .lst (h H) (derefQ_all n (derefQ sr n) l _ ps t q)
  | n + 1, .dic l, v, p, r, e => by
    cases r with
    | dic nl h t => exact derefQ_dic n (derefQ sr n) h t.pair e
  | n + 1, .hdl k, v, p, r, e => by
    cases q0 : S[k]? with
    | none => simp [deref, q0, toQ] at e
    | some o =>
      cases r with
      | hdl hk =>
        cases o with
        | lst l =>
          simp only [deref, q0, toQ] at e
          obtain ⟨ps, q, rfl⟩ := map_ok e
          obtain ⟨xs, h, t⟩ := sr.obj k _ _ hk q0
          exact .lst (SqL.of h) (derefQ_all n (derefQ sr n) l xs ps t q)
        | dct l =>
          simp only [deref, q0] at e
          obtain ⟨kvs, h, t⟩ := sr.obj k _ _ hk q0
          exact derefQ_dic n (derefQ sr n) (.inl h) t e
        | ins c fs => simp [deref, q0, toQ] at e
        | ext => simp [deref, q0, toQ] at e
  | n + 1, .non, v, p, r, e => toQ_ok r p e
  | n + 1, .bl _, v, p, r, e => toQ_ok r p e
  | n + 1, .int _, v, p, r, e => toQ_ok r p e
  | n + 1, .str _, v, p, r, e => toQ_ok r p e
  | n + 1, .obj _ _, v, p, r, e => toQ_ok r p e
  | n + 1, .glo _, v, p, r, e => toQ_ok r p e
  | n + 1, .ty _, v, p, r, e => toQ_ok r p e
  | n + 1, .ext _ _ _ _, v, p, r, e => toQ_ok r p e
theorem resQ (sr : SR K L io H S) {v : V} {d : Dv} {p : PyData} (r : VX K L io H v d) (e : toQ (res S d) = some p) : Dq K H v p := by
  rcases r with r | ⟨a, o, rfl, rfl, np, ob⟩
  · exact derefQ sr 40 d v p r e
  · cases o with
    | lst l =>
      simp only [vwO, res, deref, toQ] at e
      obtain ⟨ps, q, rfl⟩ := map_ok e
      obtain ⟨xs, h, t⟩ := ob
      exact .lst (SqL.of h) (derefQ_all 39 (derefQ sr 39) l xs ps t q)
    | dct l =>
      obtain ⟨kvs, h, t⟩ := ob
      exact derefQ_dic 39 (derefQ sr 39) (.inl h) t e
    | ins c fs => simp [vwO, res, deref, toQ] at e
    | ext => simp [vwO, res, deref, toQ] at e
end
def reprD (S : Sto) : List Dv → Option (Dv × Sto)
  | [d] => (toQ (res S d)).bind fun p => if p.showable && decide (p.depth ≤ 60) && decide (p.shown.length ≤ sizeLine) then some (.str p.shown, S) else none
  | _ => none
def rRepr (K : PySem.W.Frag) : List V → Hp → VK → Prop := fun xs H Q => ∃ v p, xs = [v] ∧ Dq K H v p ∧ p.showable = true ∧ p.depth ≤ 60 ∧ p.shown.length ≤ sizeLine ∧ Q (.str p.shown) H
theorem cas_repr {K : PySem.W.Frag} : CaS K (rRepr K) reprD := by
  intro L io H S xs l d S' Q sr rv e q
  cases rv with
  | nil => cases e
  | cons r t =>
    cases t with
    | cons r2 t2 => cases e
    | nil =>
      rename_i v dd
      simp only [reprD] at e
      cases h : toQ (res S dd) with
      | none => rw [h] at e; cases e
      | some p =>
        rw [h] at e
        simp only [Option.bind_some] at e
        split at e
        · rename_i hc
          simp only [Bool.and_eq_true, decide_eq_true_eq] at hc
          cases e
          exact ⟨v, p, rfl, resQ sr r h, hc.1.1, hc.1.2, hc.2, q _ H L io (Stp.refl ..) sr (.str _)⟩
        · cases e
theorem call_repr {X : Cx} {k : Nat} (hr : RoomG k X.A) (hs : SysB X.base) : CallR X (.builtin "repr") (rRepr X.K) := by
  intro pins s σ H xs us Q I r h
  obtain ⟨v, p, rfl, hd, h1, h2, h3, q⟩ := h
  obtain ⟨u, rfl, ru⟩ := vals1 r
  cases hd with
  | non => cases ru; exact PySem.P.repr_of_none ⟨.str _, H, I.tok _, ⟨_, rfl⟩, q⟩
  | bl b => cases ru; exact PySem.P.repr_of_bool ⟨.str _, H, I.tok _, ⟨_, rfl⟩, q⟩
  | int i => obtain ⟨t, rfl⟩ := ru; exact PySem.P.repr_of_int (by simpa [PyData.showable] using h1) ⟨.str _, H, I.tok _, ⟨_, rfl⟩, q⟩
  | str x => obtain ⟨t, rfl⟩ := ru; exact PySem.P.repr_of_str ⟨.str _, H, I.tok _, ⟨_, rfl⟩, q⟩ h3
  | lst hl ha =>
    obtain ⟨as, z, nz⟩ := Dq.reads I hs (.lst hl ha) _ ru
    cases ru
    have hu := hr.r.un
    exact repr_of_reads' z h1 (fun _ => nz) hr.g (by omega) (fun _ _ e => e) (fun h' u tk hk => ⟨.str _, H, I.kept hk, ⟨_, rfl⟩, q⟩) h3
  | tup hl ha =>
    obtain ⟨as, z, nz⟩ := Dq.reads I hs (.tup hl ha) _ ru
    cases ru
    have hu := hr.r.un
    exact repr_of_reads' z h1 (fun _ => nz) hr.g (by omega) (fun _ _ e => e) (fun h' u tk hk => ⟨.str _, H, I.kept hk, ⟨_, rfl⟩, q⟩) h3
  | dct hl ha =>
    obtain ⟨as, z, nz⟩ := Dq.reads I hs (.dct hl ha) _ ru
    cases ru
    have hu := hr.r.un
    exact repr_of_reads' z h1 (fun _ => nz) hr.g (by omega) (fun _ _ e => e) (fun h' u tk hk => ⟨.str _, H, I.kept hk, ⟨_, rfl⟩, q⟩) h3
end DL
namespace DL
open PySem L2
def NewO (K : PySem.W.Frag) (H : Hp) (L' : Addr → Prop) (io' : List Addr) (H' : Hp) (v : V) (o : Ob) : Prop := ∃ p, v = .ref p ∧ H p = none ∧ L' p ∧ p ∉ io' ∧ ObR K L' io' H' p o
abbrev DN := Env → Sto → Res Ob
def FinN (K : PySem.W.Frag) (W : WX) (g : St) (L : Addr → Prop) (io : List Addr) (H : Hp) (Q : V → Hp → Prop) : Res Ob → Prop
  | .ok d S' => ∀ (v : V) (H' : Hp) (L' : Addr → Prop) (io' : List Addr), Stp L io H L' io' H' → SR K L' io' H' S' → NewO K H L' io' H' v d → Q v H'
  | .ex c fs S' => ∀ (x : Option Addr) (H' : Hp) (L' : Addr → Prop) (io' : List Addr), Stp L io H L' io' H' → SR K L' io' H' S' → ExR K L' io' H' x fs → W (.ref (He.ga K c)) x g H'
  | .no => False
def rdN (K : PySem.W.Frag) (W : WX) (f : DN) : TE := fun g H Q => ∃ (L0 : Addr → Prop) (io0 : List Addr) (H0 : Hp) (L : Addr → Prop) (io : List Addr) (e : Env) (S : Sto), FR K L0 io0 H0 L io H g e S ∧ FinN K W g L io H Q (f e S)
abbrev QN (X : Cx) (W : WX) (e : Expr) (f : DN) : Prop := PE X e (rdN X.K W f)
def nL (f : DL) : DN := fun e S => bnd (f e S) fun l S' => .ok (.lst l) S'
def nD (f : DD) : DN := fun e S => bnd (f e S) fun l S' => .ok (.dct l) S'
theorem qn_f {X : Cx} {W : WX} {a : Expr} {f : DL} (h : QF X W a f) : QN X W a (nL f) := pe_imp h fun g H Q q => by
  obtain ⟨L0, io0, H0, L, io, e, S, fr, q⟩ := q
  refine ⟨L0, io0, H0, L, io, e, S, fr, ?_⟩
  unfold nL at q
  cases hf : f e S with
  | ok l S' => rw [hf] at q; exact fun v H' L' io' s sr ⟨p, xs, hv, hp, lp, np, h1, h2⟩ => q v H' L' io' s sr ⟨p, hv, hp, lp, np, xs, h1, h2⟩
  | ex c fs S' => rw [hf] at q; exact q
  | no => rw [hf] at q; exact q
theorem qn_d {X : Cx} {W : WX} {a : Expr} {f : DD} (h : QD X W a f) : QN X W a (nD f) := pe_imp h fun g H Q q => by
  obtain ⟨L0, io0, H0, L, io, e, S, fr, q⟩ := q
  refine ⟨L0, io0, H0, L, io, e, S, fr, ?_⟩
  unfold nD at q
  cases hf : f e S with
  | ok l S' => rw [hf] at q; exact fun v H' L' io' s sr ⟨p, xs, hv, hp, lp, np, h1, h2⟩ => q v H' L' io' s sr ⟨p, hv, hp, lp, np, xs, h1, h2⟩
  | ex c fs S' => rw [hf] at q; exact q
  | no => rw [hf] at q; exact q
/-- frozen at once -/
def eFrzN (f : DN) : DE := fun e S => bnd (f e S) fun o S' => .ok (frzO o) S'
/-- a handle at once -/
def eHdlN (f : DN) : DE := fun e S => bnd (f e S) fun o S' => .ok (.hdl S'.length) (S' ++ [o])
theorem qe_hdlN {X : Cx} {W : WX} {a : Expr} {f : DN} (h : QN X W a f) : QE X W a (eHdlN f) := pe_imp h fun g H Q q => by
  obtain ⟨L0, io0, H0, L, io, e, S, fr, q⟩ := q
  refine ⟨L0, io0, H0, L, io, e, S, fr, ?_⟩
  have q : Fin X.K W (VR X.K) g L io H Q (bnd (f e S) fun o S' => .ok (.hdl S'.length) (S' ++ [o])) := q
  cases hf : f e S with
  | no => rw [hf] at q; exact q
  | ex c fs S' => rw [hf] at q; exact q
  | ok o S' =>
    rw [hf] at q
    rintro v H' L' io' s sr ⟨p, rfl, hp, lp, np, ob⟩
    refine q _ H' L' (io' ++ [p]) ⟨?_, fun x hx => ?_, s.new, s.keep, s.up⟩ (sr.addO lp np ob) (.hdl (by rw [← sr.len]; simp))
    · obtain ⟨m, rfl⟩ := s.pre
      exact ⟨m ++ [p], by simp⟩
    · rcases List.mem_append.mp hx with z | z
      · exact s.hn x z
      · simp at z; subst z; exact .inr hp
theorem FR.setN' {K : PySem.W.Frag} {L0 L L1 : Addr → Prop} {io0 io io1 : List Addr} {H0 H H1 : Hp} {g : St} {e : Env} {S S1 : Sto} (fr : FR K L0 io0 H0 L io H g e S) (s : Stp L io H L1 io1 H1) (sr : SR K L1 io1 H1 S1) {v : V} {o : Ob} (n : NewO K H L1 io1 H1 v o) (i : Nat) :
    FR K L0 io0 H0 L1 io1 H1 (g.set i (some v)) (e.set i (.own o)) S1 := by
  obtain ⟨p, rfl, hp, lp, np, ob⟩ := n
  refine (fr.step s sr).setS i (fun d h => by cases h) (fun l' h => ?_) fun q _ _ hq j hj v1 v2 hg => ?_
  · cases h; exact ⟨p, rfl, lp, np, fr.fresh0 hp, ob⟩
  · cases hq
    by_cases hn : e[j]? = none
    · have := List.getElem?_eq_none_iff.mp hn
      rw [← fr.len] at this
      rw [List.getElem?_eq_none_iff.mpr this] at hg
      cases hg
    · obtain ⟨o, ho, _⟩ := fr.ownAt v1 v2 hn hg
      rw [hp] at ho; cases ho
def sOwnN (i : Nat) (f : DN) : DS := sBind f fun e o S => .nx (e.set i (.own o)) S
section
variable {X : Cx} {W : WX} {pos : Pos} {a b c : Expr} {x y z : Str}
theorem qs_ownN (hN : X.N.Nodup) (i : Nat) {pos' : Pos} {f : DN} (h : QN X W a f) (hi : X.N[i]? = some x := by rfl) (hx : Loc X.env.scope x := by first | exact Or.inl rfl | exact Or.inr rfl) (hs : swapsWith a (some (.Name x pos')) pos.line X.env = pure false := by rfl) (hf : X.fn x = true ∨ X.env.scope.names.lookup x = some .local := by first | exact .inl rfl | exact .inr rfl) :
    QS X W (.Assign [.Name x pos'] a pos) (sOwnN i f) := ps_imp (ps_set hN hi hx h hs hf) fun D g H h => by
  obtain ⟨L0, io0, H0, L, io, e, S, fr, h⟩ := h
  refine ⟨L0, io0, H0, L, io, e, S, fr, ?_⟩
  unfold sOwnN sBind at h
  cases hf : f e S with
  | ok o S1 =>
    rw [hf] at h
    intro v H1 L1 io1 s1 sr1 r1
    exact h _ H1 L1 io1 (s1.stw fr.st.sub) (fr.setN' s1 sr1 r1 i)
  | ex c fs S1 =>
    rw [hf] at h
    exact fun x H' L' io' s sr r => h x g H' L' io' (s.stw fr.st.sub) (fr.step s sr) r
  | no => rw [hf] at h; exact h
abbrev DB := Env → Sto → Res (List Sl)
/-- the own ones stand apart -/
inductive SlsR (K : PySem.W.Frag) (L : Addr → Prop) (io : List Addr) (H : Hp) : Hp → List V → List Sl → Prop
  | nil {Hs : Hp} : SlsR K L io H Hs [] []
  | va {Hs : Hp} {v : V} {d : Dv} {vs : List V} {ss : List Sl} : VR K L io H v d → SlsR K L io H Hs vs ss → SlsR K L io H Hs (v :: vs) (.va d :: ss)
  | own {Hs : Hp} {p : Addr} {o : Ob} {H1 : Hp} {vs : List V} {ss : List Sl} : Hs p = none → L p → p ∉ io → ObR K L io H p o → H1 p ≠ none → (∀ q, H1 q = none → Hs q = none) → SlsR K L io H H1 vs ss → SlsR K L io H Hs (.ref p :: vs) (.own o :: ss)
def bNil : DB := fun _ S => .ok [] S
def bVa (f : DE) (fb : DB) : DB := fun e S => bnd (f e S) fun d S1 => bnd (fb e S1) fun l S2 => .ok (.va d :: l) S2
def bOwn (f : DN) (fb : DB) : DB := fun e S => bnd (f e S) fun o S1 => bnd (fb e S1) fun l S2 => .ok (.own o :: l) S2
theorem SlsR.weaken {K : PySem.W.Frag} {Hs Hs' : Hp} {L : Addr → Prop} {io : List Addr} {H : Hp} (hw : ∀ q, Hs q = none → Hs' q = none) : ∀ {vs : List V} {ss : List Sl}, SlsR K L io H Hs vs ss → SlsR K L io H Hs' vs ss
  | _, _, .nil => .nil
  | _, _, .va r t => .va r (t.weaken hw)
  | _, _, .own h1 h2 h3 h4 h5 h6 t => .own (hw _ h1) h2 h3 h4 h5 (fun q z => hw q (h6 q z)) t
/-- the slots are set, from the left -/
def setSs : List Nat → List Sl → Env → Env
  | i :: is, s :: ss, e => setSs is ss (e.set i s)
  | _, _, e => e
def sParB (is : List Nat) (fb : DB) : DS := sBind fb fun e ss S => if ss.length = is.length then .nx (setSs is ss e) S else .no
theorem SlsR.len {K : PySem.W.Frag} {L : Addr → Prop} {io : List Addr} {H : Hp} : ∀ {Hs : Hp} {vs : List V} {ss : List Sl}, SlsR K L io H Hs vs ss → vs.length = ss.length
  | _, _, _, .nil => rfl
  | _, _, _, .va _ t => by rw [List.length_cons, List.length_cons, t.len]
  | _, _, _, .own _ _ _ _ _ _ t => by rw [List.length_cons, List.length_cons, t.len]
def sSetO (i : Nat) (fi fv : DE) : DS := sBind fv fun e v S1 => match e[i]? with
  | some (.own (.lst l)) => sBind fi (fun e n S3 => match n with
    | .int n => match ixN l.length n with
      | some j => .nx (e.set i (.ow (l.set j v))) S3
      | none => .no
    | _ => .no) e S1
  | _ => .no
end
def listK (l : List Dv) (S : Sto) : Res (List Dv) := match l with
  | [d] => match asQ S d with
    | some l => .ok l S
    | none => .no
  | _ => .no
def fList (fa : DA) : DL := fun e S => bnd (fa e S) listK
def eAny (i : Nat) : DE := fun e S => match e[i]? with
  | some (.own o) => .ok (vwO o) S
  | some (.va d) => .ok d S
  | _ => .no
/-- frozen from now on -/
def sFz (i : Nat) : DS := fun e S => match e[i]? with
  | some (.own o) => .nx (e.set i (.va (frzO o))) S
  | some (.va _) => .nx e S
  | _ => .no
theorem qss_fz {X : Cx} {W : WX} {sts : List Stmt} {f : DS} (i : Nat) (h : QSs X W sts f) : QSs X W sts (sSeq (sFz i) f) := pss_imp h fun D g H h => by
  obtain ⟨L0, io0, H0, L, io, e, S, fr, h⟩ := h
  unfold sSeq sFz at h
  cases q : e[i]? with
  | none => rw [q] at h; exact h.elim
  | some s =>
    cases s with
    | own o =>
      rw [q] at h
      obtain ⟨p, _, fr2, w⟩ := fr.frz q
      exact ⟨L0, io0, H0, Lz L p, io, _, S, fr2, outR.later h w⟩
    | va d =>
      rw [q] at h
      exact ⟨L0, io0, H0, L, io, e, S, fr, h⟩
    | no => rw [q] at h; exact h.elim
def tbOf {α : Type} (c : α → DF) : List (Str × α) → Str → Option DF
  | [], _ => none
  | (y, f) :: r, x => if x = y then some (c f) else tbOf c r x
theorem tbOf_ok {α : Type} {c : α → DF} {R : Str → DF → Prop} : ∀ {l : List (Str × α)}, (∀ q ∈ l, R q.1 (c q.2)) → ∀ y g, tbOf c l y = some g → R y g
  | [], _, _, _, e => by cases e
  | (z, f) :: r, h, y, g, e => by
    unfold tbOf at e
    split at e
    · rename_i hy
      cases e
      rw [hy]
      exact h _ (List.mem_cons_self ..)
    · exact tbOf_ok (fun q hq => h q (List.mem_cons_of_mem _ hq)) y g e
end DL
namespace DL
open PySem L2
def prD : Dv → Option (Key × Dv)
  | .tup [k, v] => (keyD k).map fun k' => (k', v)
  | _ => none
def prsD : List Dv → Option (List (Key × Dv))
  | [] => some []
  | d :: l => (prD d).bind fun p => (prsD l).map fun r => p :: r
def dictK (l : List Dv) (S : Sto) : Res (List (Key × Dv)) := match l with
  | [d] => (match asL S d with
    | some m => (match prsD m with
      | some kv => .ok (mergeD [] kv) S
      | none => .no)
    | none => .no)
  | _ => .no
def dDict (fa : DA) : DD := fun e S => bnd (fa e S) dictK
theorem FinD.bind {α β : Type} {K : PySem.W.Frag} {W : WX} {R : (Addr → Prop) → List Addr → Hp → β → α → Prop} {f : Env → Sto → Res α} {k : α → Sto → Res (List (Key × Dv))} {g : St} {L0 L : Addr → Prop} {io0 io : List Addr} {H0 H : Hp} {e : Env} {S : Sto} {Q : V → Hp → Prop} {P : β → Hp → Prop}
    (fr : FR K L0 io0 H0 L io H g e S) (h : FinD K W g L io H Q (bnd (f e S) k))
    (n : ∀ (L1 : Addr → Prop) (io1 : List Addr) (H1 : Hp) (S1 : Sto) (a : α) (v : β), Stp L io H L1 io1 H1 → FR K L0 io0 H0 L1 io1 H1 g e S1 → R L1 io1 H1 v a → FinD K W g L1 io1 H1 Q (k a S1) → P v H1) : Rdg K W R f g H P := by
  refine ⟨L0, io0, H0, L, io, e, S, fr, ?_⟩
  cases hf : f e S with
  | ok a S1 =>
    rw [hf] at h
    intro v H1 L1 io1 s1 sr1 r1
    exact n L1 io1 H1 S1 a v s1 (fr.step s1 sr1) r1 (FinD.later (r := k a S1) h s1 fr.st.sub sr1)
  | ex c fs S1 => rw [hf] at h; exact h
  | no => rw [hf] at h; exact h
end DL
namespace TX
open PySem PySem.Spec PyProof.Rows L2
def keyS (e : Int × Value) : Str := match e.2 with | .str k _ => k | _ => Str.empty
def GoodS (P : Program) (w : World) (e : Int × Value) : Prop := ∃ k tk, e.2 = Value.str k tk ∧ e.1 = (strKind P w).hash k
/-- the set of texts at a: S its members, n their number -/
def TxR (P : Program) (w : World) (h : Heap) (a : Addr) (S : Str → Bool) (n : Nat) : Prop :=
  ∃ o es ep t, h.get? a = some o ∧ o.ExactSet ∧ o.data = .set es ep t ∧ (∀ e ∈ es.toList, GoodS P w e) ∧ (es.toList.map keyS).Nodup ∧ (∀ k, S k = true ↔ k ∈ es.toList.map keyS) ∧
    es.size < scanBound ∧ t.fits es.size = true ∧ es.size = n ∧ Ris t.place.toList ∧ (w.params.followText "set-order" = true ∨ t.led = true)
section
variable {P : Program} {w : World} {h h' : Heap} {a : Addr} {S : Str → Bool} {n : Nat}
theorem TxR.at (R : TxR P w h a S n) (k : ∀ o, h.get? a = some o → h'.get? a = some o) : TxR P w h' a S n := by
  obtain ⟨o, es, ep, t, ho, r⟩ := R
  exact ⟨o, es, ep, t, k o ho, r⟩
theorem TxR.lt (R : TxR P w h a S n) : a < h.objs.size := by
  obtain ⟨o, es, ep, t, ho, r⟩ := R
  exact Heap.lt_size ho
end
end TX
namespace DL
open PySem L2
section
variable {α β : Type} (S S' : Sto) (e : Env) (d d1 d2 d3 : Dv) (l l' : List Dv) (f f1 f2 f3 fo fi fv : DE) (t t1 t2 : DT) (fa : DA) (fl : DL) (s s1 s2 : DS) (h2 : Sto → Dv → Dv → Option (Dv × Sto)) (hc : Sto → List Dv → Option (Dv × Sto)) (g : DF) (i j k : Nat) (b : Bool) (c : Str) (fs : List (Str × Dv)) (x : Option (Dv × Sto))
def kVar (S : Sto) : Option Sl → Res Dv
  | some (.va d) => .ok d S
  | _ => .no
@[simp] theorem ev_var : eVar i e S = kVar S (e[i]?) := rfl
@[simp] theorem kVar_va : kVar S (some (.va d)) = .ok d S := rfl
@[simp] theorem ev_c : eC d e S = .ok d S := rfl
@[simp] theorem ofO_none : (ofO none : Res α) = .no := rfl
@[simp] theorem bnd_no (k : α → Sto → Res β) : bnd .no k = .no := rfl
def kB1 (h : Sto → Dv → Dv → Option (Dv × Sto)) (f2 : DE) (e : Env) (a : Dv) (S : Sto) : Res Dv := bnd (f2 e S) fun b S2 => ofO (h S2 a b)
def kB2 (h : Sto → Dv → Dv → Option (Dv × Sto)) (a b : Dv) (S : Sto) : Res Dv := ofO (h S a b)
@[simp] theorem ev_bin : eBin h2 f1 f2 e S = bnd (f1 e S) (kB1 h2 f2 e) := rfl
@[simp] theorem ev_b1 : kB1 h2 f2 e d S = bnd (f2 e S) (kB2 h2 d) := rfl
@[simp] theorem ev_b2 : kB2 h2 d1 d2 S = ofO (h2 S d1 d2) := rfl
@[simp] theorem ev_tval : tVal f e S = bnd (f e S) blD := rfl
@[simp] theorem blD_bl : blD (.bl b) S = .ok b S := rfl
@[simp] theorem ev_ttru : tTru f e S = bnd (f e S) truR := rfl
def kTru (S : Sto) : Option Bool → Res Bool
  | some b => .ok b S
  | none => .no
@[simp] theorem ev_truR : truR d S = kTru S (truD S d) := by unfold truR; cases truD S d <;> rfl
@[simp] theorem kTru_some : kTru S (some b) = .ok b S := rfl
@[simp] theorem tru_bl : truD S (.bl b) = some b := rfl
@[simp] theorem tru_non : truD S .non = some false := rfl
@[simp] theorem tru_int (n : Int) : truD S (.int n) = some (n != 0) := rfl
@[simp] theorem tru_tup : truD S (.tup l) = some (!l.isEmpty) := rfl
@[simp] theorem tru_lst : truD S (.lst l) = some (!l.isEmpty) := rfl
@[simp] theorem tru_rol : truD S (.rol l) = some (!l.isEmpty) := rfl
def kAnd (t2 : DT) (e : Env) (b : Bool) (S : Sto) : Res Bool := if b then t2 e S else .ok false S
def kOr (t2 : DT) (e : Env) (b : Bool) (S : Sto) : Res Bool := if b then .ok true S else t2 e S
def kNot (b : Bool) (S : Sto) : Res Bool := .ok (!b) S
@[simp] theorem ev_tand : tAnd' t1 t2 e S = bnd (t1 e S) (kAnd t2 e) := rfl
@[simp] theorem ev_tor : tOr' t1 t2 e S = bnd (t1 e S) (kOr t2 e) := rfl
@[simp] theorem ev_tnot : tNot' t1 e S = bnd (t1 e S) kNot := rfl
@[simp] theorem kAnd_t : kAnd t2 e true S = t2 e S := rfl
@[simp] theorem kAnd_f : kAnd t2 e false S = .ok false S := rfl
@[simp] theorem kOr_t : kOr t2 e true S = .ok true S := rfl
@[simp] theorem kOr_f : kOr t2 e false S = t2 e S := rfl
@[simp] theorem kNot_v : kNot b S = .ok (!b) S := rfl
def kIf (f1 f2 : DE) (e : Env) (b : Bool) (S : Sto) : Res Dv := if b then f1 e S else f2 e S
@[simp] theorem ev_if : eIf t f1 f2 e S = bnd (t e S) (kIf f1 f2 e) := rfl
@[simp] theorem kIf_t : kIf f1 f2 e true S = f1 e S := rfl
@[simp] theorem kIf_f : kIf f1 f2 e false S = f2 e S := rfl
def kEAnd (f2 : DE) (e : Env) (a : Dv) (S : Sto) : Res Dv := bnd (truR a S) fun k S2 => if k then f2 e S2 else .ok a S2
def kEOr (f2 : DE) (e : Env) (a : Dv) (S : Sto) : Res Dv := bnd (truR a S) fun k S2 => if k then .ok a S2 else f2 e S2
def kENot (a : Dv) (S : Sto) : Res Dv := bnd (truR a S) fun k S2 => .ok (.bl (!k)) S2
def kEAnd2 (f2 : DE) (e : Env) (a : Dv) (k : Bool) (S : Sto) : Res Dv := if k then f2 e S else .ok a S
def kEOr2 (f2 : DE) (e : Env) (a : Dv) (k : Bool) (S : Sto) : Res Dv := if k then .ok a S else f2 e S
def kENot2 (k : Bool) (S : Sto) : Res Dv := .ok (.bl (!k)) S
@[simp] theorem ev_eand : eAnd f1 f2 e S = bnd (f1 e S) (kEAnd f2 e) := rfl
@[simp] theorem ev_eor : eOr f1 f2 e S = bnd (f1 e S) (kEOr f2 e) := rfl
@[simp] theorem ev_enot : eNot f1 e S = bnd (f1 e S) kENot := rfl
@[simp] theorem ev_keand : kEAnd f2 e d S = bnd (kTru S (truD S d)) (kEAnd2 f2 e d) := by unfold kEAnd; rw [ev_truR]; rfl
@[simp] theorem ev_keor : kEOr f2 e d S = bnd (kTru S (truD S d)) (kEOr2 f2 e d) := by unfold kEOr; rw [ev_truR]; rfl
@[simp] theorem ev_kenot : kENot d S = bnd (kTru S (truD S d)) kENot2 := by unfold kENot; rw [ev_truR]; rfl
@[simp] theorem kEAnd2_t : kEAnd2 f2 e d true S = f2 e S := rfl
@[simp] theorem kEAnd2_f : kEAnd2 f2 e d false S = .ok d S := rfl
@[simp] theorem kEOr2_t : kEOr2 f2 e d true S = .ok d S := rfl
@[simp] theorem kEOr2_f : kEOr2 f2 e d false S = f2 e S := rfl
@[simp] theorem kENot2_v : kENot2 b S = .ok (.bl (!b)) S := rfl
@[simp] theorem ev_anil : aNil e S = .ok [] S := rfl
def kA1 (fa : DA) (e : Env) (d : Dv) (S : Sto) : Res (List Dv) := bnd (fa e S) fun l S2 => .ok (d :: l) S2
def kA2 (d : Dv) (l : List Dv) (S : Sto) : Res (List Dv) := .ok (d :: l) S
@[simp] theorem ev_acons : aCons f fa e S = bnd (f e S) (kA1 fa e) := rfl
@[simp] theorem ev_a1 : kA1 fa e d S = bnd (fa e S) (kA2 d) := rfl
@[simp] theorem ev_a2 : kA2 d l S = .ok (d :: l) S := rfl
@[simp] theorem ev_tup : eTup fa e S = bnd (fa e S) tupR := rfl
@[simp] theorem ev_lst : eLst fa e S = bnd (fa e S) lstR := rfl
theorem line_le (n : Nat) (h : n ≤ 100000) : n ≤ sizeLine := Nat.le_trans h (by decide)
theorem tupR_ok (h : l.length ≤ sizeLine) : tupR l S = .ok (.tup l) S := if_pos h
@[simp] theorem tupR0 : tupR [] S = .ok (.tup []) S := tupR_ok _ _ (line_le _ (by decide))
@[simp] theorem tupR1 (a1 : Dv) : tupR [a1] S = .ok (.tup [a1]) S := tupR_ok _ _ (line_le _ (by simp))
@[simp] theorem tupR2 (a1 a2 : Dv) : tupR [a1, a2] S = .ok (.tup [a1, a2]) S := tupR_ok _ _ (line_le _ (by simp))
@[simp] theorem tupR3 (a1 a2 a3 : Dv) : tupR [a1, a2, a3] S = .ok (.tup [a1, a2, a3]) S := tupR_ok _ _ (line_le _ (by simp))
@[simp] theorem tupR4 (a1 a2 a3 a4 : Dv) : tupR [a1, a2, a3, a4] S = .ok (.tup [a1, a2, a3, a4]) S := tupR_ok _ _ (line_le _ (by simp))
@[simp] theorem tupR5 (a1 a2 a3 a4 a5 : Dv) : tupR [a1, a2, a3, a4, a5] S = .ok (.tup [a1, a2, a3, a4, a5]) S := tupR_ok _ _ (line_le _ (by simp))
@[simp] theorem tupR6 (a1 a2 a3 a4 a5 a6 : Dv) : tupR [a1, a2, a3, a4, a5, a6] S = .ok (.tup [a1, a2, a3, a4, a5, a6]) S := tupR_ok _ _ (line_le _ (by simp))
def kCB (h : Sto → List Dv → Option (Dv × Sto)) (l : List Dv) (S : Sto) : Res Dv := ofO (h S l)
@[simp] theorem ev_cb : eCB hc fa e S = bnd (fa e S) (kCB hc) := rfl
@[simp] theorem ev_kcb : kCB hc l S = ofO (hc S l) := rfl
def kCall (g : DF) (l : List Dv) (S : Sto) : Res Dv := g S l
@[simp] theorem ev_call : eCall g fa e S = bnd (fa e S) (kCall g) := rfl
@[simp] theorem ev_kcall : kCall g l S = g S l := rfl
def kFrz (l : List Dv) (S : Sto) : Res Dv := .ok (.lst l) S
@[simp] theorem ev_frz : eFrz fl e S = bnd (fl e S) kFrz := rfl
@[simp] theorem ev_kfrz : kFrz l S = .ok (.lst l) S := rfl
def kLst (l : List Dv) (S : Sto) : Res (List Dv) := if l.length ≤ sizeLine then .ok l S else .no
@[simp] theorem ev_flst : fLst fa e S = bnd (fa e S) kLst := rfl
theorem kLst_ok (h : l.length ≤ sizeLine) : kLst l S = .ok l S := if_pos h
@[simp] theorem kLst0 : kLst [] S = .ok [] S := kLst_ok _ _ (line_le _ (by decide))
@[simp] theorem kLst1 (a1 : Dv) : kLst [a1] S = .ok [a1] S := kLst_ok _ _ (line_le _ (by simp))
@[simp] theorem kLst2 (a1 a2 : Dv) : kLst [a1, a2] S = .ok [a1, a2] S := kLst_ok _ _ (line_le _ (by simp))
@[simp] theorem kLst3 (a1 a2 a3 : Dv) : kLst [a1, a2, a3] S = .ok [a1, a2, a3] S := kLst_ok _ _ (line_le _ (by simp))
@[simp] theorem kLst4 (a1 a2 a3 a4 : Dv) : kLst [a1, a2, a3, a4] S = .ok [a1, a2, a3, a4] S := kLst_ok _ _ (line_le _ (by simp))
def kNew (l : List Dv) (S : Sto) : Res Dv := .ok (.hdl S.length) (S ++ [.lst l])
@[simp] theorem ev_new : eNew fl e S = bnd (fl e S) kNew := rfl
@[simp] theorem ev_knew : kNew l S = .ok (.hdl S.length) (S ++ [.lst l]) := rfl
@[simp] theorem ev_isq : iSq f e S = bnd (f e S) seqR := rfl
@[simp] theorem seqR_tup : seqR (.tup l) S = .ok l S := rfl
@[simp] theorem seqR_lst : seqR (.lst l) S = .ok l S := rfl
@[simp] theorem seqR_rol : seqR (.rol l) S = .ok l S := rfl
@[simp] theorem ev_rng1 : iRng1' fa e S = bnd (fa e S) rngR1 := rfl
@[simp] theorem ev_rng2 : iRng2' fa e S = bnd (fa e S) rngR2 := rfl
theorem rngR1_ok (n : Int) (h : 0 ≤ n ∧ n < 1000000000) : rngR1 [.int n] S = .ok (rngD 0 n.toNat) S := if_pos ⟨by omega, by omega⟩
theorem rngR2_ok (m n : Int) (h : 0 ≤ m ∧ m < 1000000000 ∧ -1000000000 < n ∧ n < 1000000000) : rngR2 [.int m, .int n] S = .ok (rngD m (n - m).toNat) S := if_pos ⟨by omega, by omega, by omega, by omega⟩
/-- comprehensions -/
def kLc (gd : DG) (tt : DT) (te : DE) (vs : List Nat) (e : Env) (ds : List Dv) (S : Sto) : Res (List Dv) := match lcR gd tt te (wipeE e vs) ds S with
  | .ok l S2 => if l.length ≤ sizeLine then .ok l S2 else .no
  | _ => .no
def kLcEnd : Res (List Dv) → Res (List Dv)
  | .ok l S2 => if l.length ≤ sizeLine then .ok l S2 else .no
  | _ => .no
@[simp] theorem ev_fLc (gd : DG) (tt : DT) (te : DE) (vs : List Nat) : fLc fl gd tt te vs e S = bnd (fl e S) (kLc gd tt te vs e) := rfl
@[simp] theorem ev_kLc (gd : DG) (tt : DT) (te : DE) (vs : List Nat) : kLc gd tt te vs e l S = kLcEnd (lcR gd tt te (wipeE e vs) l S) := by unfold kLc kLcEnd; rfl
theorem kLcEnd_ok (h : l.length ≤ sizeLine) : kLcEnd (.ok l S) = .ok l S := if_pos h
@[simp] theorem wipeE_nil : wipeE e [] = e := rfl
@[simp] theorem wipeE_cons (v : Nat) (vs : List Nat) : wipeE e (v :: vs) = (wipeE e vs).set v .no := rfl
@[simp] theorem ev_gN : gN i d e = some (e.set i (.va d)) := rfl
def kGs (gs : DGs) (r : List Dv) : Option Env → Option Env
  | some e => gs r e
  | none => none
@[simp] theorem ev_gT (gs : DGs) : gT gs (.tup l) e = gs l e := rfl
@[simp] theorem ev_gsNil : gsNil [] e = some e := rfl
@[simp] theorem ev_gsCons (gd : DG) (gs : DGs) : gsCons gd gs (d :: l) e = kGs gs l (gd d e) := by show (gd d e).bind (fun e' => gs l e') = _; cases gd d e <;> rfl
@[simp] theorem kGs_some (gs : DGs) : kGs gs l (some e) = gs l e := rfl
/-- statements -/
@[simp] theorem ev_snil : sNil e S = .nx e S := rfl
def kSeq (s2 : DS) : Out → Out
  | .nx e S => s2 e S
  | o => o
@[simp] theorem ev_seq : sSeq s1 s2 e S = kSeq s2 (s1 e S) := by unfold sSeq kSeq; cases s1 e S <;> rfl
@[simp] theorem kSeq_nx : kSeq s2 (.nx e S) = s2 e S := rfl
@[simp] theorem kSeq_rt : kSeq s2 (.rt d S) = .rt d S := rfl
@[simp] theorem kSeq_bk : kSeq s2 (.bk e S) = .bk e S := rfl
@[simp] theorem kSeq_ct : kSeq s2 (.ct e S) = .ct e S := rfl
@[simp] theorem kSeq_ex : kSeq s2 (.ex c fs e S) = .ex c fs e S := rfl
def kS {α : Type} (k : Env → α → Sto → Out) (e : Env) : Res α → Out
  | .ok a S => k e a S
  | .ex c fs S => .ex c fs e S
  | .no => .no
theorem ev_sbind (f : Env → Sto → Res α) (k : Env → α → Sto → Out) : sBind f k e S = kS k e (f e S) := by unfold sBind kS; cases f e S <;> rfl
@[simp] theorem kS_ok (k : Env → α → Sto → Out) (a : α) : kS k e (.ok a S) = k e a S := rfl
@[simp] theorem kS_ex (k : Env → α → Sto → Out) : kS k e (.ex c fs S) = .ex c fs e S := rfl
def qRet (e : Env) (d : Dv) (S : Sto) : Out := .rt d S
@[simp] theorem ev_ret : sRet f e S = kS qRet e (f e S) := ev_sbind ..
@[simp] theorem ev_qret : qRet e d S = .rt d S := rfl
def qExpr (e : Env) (d : Dv) (S : Sto) : Out := .nx e S
@[simp] theorem ev_expr : sExpr f e S = kS qExpr e (f e S) := ev_sbind ..
@[simp] theorem ev_qexpr : qExpr e d S = .nx e S := rfl
def qIf (s1 s2 : DS) (e : Env) (b : Bool) (S : Sto) : Out := if b then s1 e S else s2 e S
@[simp] theorem ev_sif : sIf t s1 s2 e S = kS (qIf s1 s2) e (t e S) := ev_sbind ..
@[simp] theorem qIf_t : qIf s1 s2 e true S = s1 e S := rfl
@[simp] theorem qIf_f : qIf s1 s2 e false S = s2 e S := rfl
def qAsg (i : Nat) (e : Env) (d : Dv) (S : Sto) : Out := .nx (e.set i (.va d)) S
@[simp] theorem ev_asg : sAsg i f e S = kS (qAsg i) e (f e S) := ev_sbind ..
@[simp] theorem ev_qasg : qAsg i e d S = .nx (e.set i (.va d)) S := rfl
def kAsgG (S : Sto) : Option Env → Out
  | some e' => .nx e' S
  | none => .no
def qAsgG (gd : DG) (e : Env) (d : Dv) (S : Sto) : Out := kAsgG S (gd d e)
@[simp] theorem ev_asgG (gd : DG) : sAsgG gd f e S = kS (qAsgG gd) e (f e S) := by
  unfold sAsgG; rw [ev_sbind]; congr 1
@[simp] theorem ev_qasgG (gd : DG) : qAsgG gd e d S = kAsgG S (gd d e) := rfl
@[simp] theorem kAsgG_some : kAsgG S (some e) = .nx e S := rfl
def qPar (i j : Nat) (e : Env) (l : List Dv) (S : Sto) : Out := match l with
  | [d1, d2] => .nx ((e.set i (.va d1)).set j (.va d2)) S
  | _ => .no
@[simp] theorem ev_par : sPar i j fa e S = kS (qPar i j) e (fa e S) := ev_sbind ..
@[simp] theorem ev_qpar : qPar i j e [d1, d2] S = .nx ((e.set i (.va d1)).set j (.va d2)) S := rfl
def qPar3 (i j k : Nat) (e : Env) (l : List Dv) (S : Sto) : Out := match l with
  | [d1, d2, d3] => .nx (((e.set i (.va d1)).set j (.va d2)).set k (.va d3)) S
  | _ => .no
@[simp] theorem ev_par3 : sPar3 i j k fa e S = kS (qPar3 i j k) e (fa e S) := ev_sbind ..
@[simp] theorem ev_qpar3 : qPar3 i j k e [d1, d2, d3] S = .nx (((e.set i (.va d1)).set j (.va d2)).set k (.va d3)) S := rfl
def qOwn (i : Nat) (e : Env) (l : List Dv) (S : Sto) : Out := .nx (e.set i (.ow l)) S
@[simp] theorem ev_own : sOwn i fl e S = kS (qOwn i) e (fl e S) := ev_sbind ..
@[simp] theorem ev_qown : qOwn i e l S = .nx (e.set i (.ow l)) S := rfl
def qNew (i : Nat) (e : Env) (l : List Dv) (S : Sto) : Out := .nx (e.set i (.va (.hdl S.length))) (S ++ [.lst l])
@[simp] theorem ev_snew : sNew i fl e S = kS (qNew i) e (fl e S) := ev_sbind ..
@[simp] theorem ev_qnew : qNew i e l S = .nx (e.set i (.va (.hdl S.length))) (S ++ [.lst l]) := rfl
def kFz (i : Nat) (e : Env) (S : Sto) : Option Sl → Out
  | some (.own o) => .nx (e.set i (.va (frzO o))) S
  | _ => .no
@[simp] theorem ev_sfrz : sFrz i e S = kFz i e S (e[i]?) := by unfold sFrz kFz; cases e[i]? with
  | none => rfl
  | some s => cases s <;> rfl
@[simp] theorem kFz_ow : kFz i e S (some (.ow l)) = .nx (e.set i (.va (.lst l))) S := rfl
@[simp] theorem kFz_od (m : List (Key × Dv)) : kFz i e S (some (.od m)) = .nx (e.set i (.va (.dic m))) S := rfl
@[simp] theorem kFz_oi : kFz i e S (some (.oi c fs)) = .nx (e.set i (.va (.obj c fs))) S := rfl
def qFor (gd : DG) (s : DS) (e : Env) (l : List Dv) (S : Sto) : Out := forR gd s l e S
@[simp] theorem ev_for (gd : DG) : sFor fl gd s e S = kS (qFor gd s) e (fl e S) := ev_sbind ..
@[simp] theorem ev_qfor (gd : DG) : qFor gd s e l S = forR gd s l e S := rfl
def qOwnM (h : List Dv → List Dv → Option (List Dv × Dv)) (i : Nat) (l : List Dv) (e : Env) (as : List Dv) (S : Sto) : Out := match h l as with
  | some (l', _) => .nx (e.set i (.ow l')) S
  | none => .no
def kOwnM (h : List Dv → List Dv → Option (List Dv × Dv)) (i : Nat) (fa : DA) (e : Env) (S : Sto) : Option Sl → Out
  | some (.own (.lst l)) => kS (qOwnM h i l) e (fa e S)
  | _ => .no
@[simp] theorem ev_ownM (h : List Dv → List Dv → Option (List Dv × Dv)) : sOwnM h i fa e S = kOwnM h i fa e S (e[i]?) := by
  unfold sOwnM kOwnM
  rcases e[i]? with _ | (_ | _ | (l | _ | _ | _)) <;> first | rfl | exact ev_sbind ..
@[simp] theorem kOwnM_ow (h : List Dv → List Dv → Option (List Dv × Dv)) : kOwnM h i fa e S (some (.ow l)) = kS (qOwnM h i l) e (fa e S) := rfl
@[simp] theorem qOwnM_app (h : l.length < sizeLine) : qOwnM appD i l e [d] S = .nx (e.set i (.ow (l ++ [d]))) S := by unfold qOwnM appD; simp only [if_pos h]
/-- handles' lists -/
def kSet (e : Env) : Option Sto → Out
  | some S => .nx e S
  | none => .no
def qSet1 (fo fi : DE) (e : Env) (v : Dv) (S : Sto) : Out := sBind fo (fun e o S2 => sBind fi (fun e i S3 => match setD S3 o i v with
  | some S4 => .nx e S4
  | none => .no) e S2) e S
def qSet2 (fi : DE) (v : Dv) (e : Env) (o : Dv) (S : Sto) : Out := sBind fi (fun e i S3 => match setD S3 o i v with
  | some S4 => .nx e S4
  | none => .no) e S
def qSet3 (v o : Dv) (e : Env) (i : Dv) (S : Sto) : Out := kSet e (setD S o i v)
@[simp] theorem ev_setI : sSetI fo fi fv e S = kS (qSet1 fo fi) e (fv e S) := ev_sbind ..
@[simp] theorem ev_qset1 : qSet1 fo fi e d S = kS (qSet2 fi d) e (fo e S) := ev_sbind ..
@[simp] theorem ev_qset2 : qSet2 fi d e d1 S = kS (qSet3 d d1) e (fi e S) := by
  unfold qSet2; rw [ev_sbind]; congr 1
@[simp] theorem ev_qset3 : qSet3 d d1 e d2 S = kSet e (setD S d1 d2 d) := rfl
@[simp] theorem kSet_some : kSet e (some S) = .nx e S := rfl
def kSetH (S : Sto) (k : Nat) (n : Int) (v : Dv) : Option Ob → Option Sto
  | some (.lst l) => match ixN l.length n with
    | some j => some (S.set k (.lst (l.set j v)))
    | none => none
  | _ => none
@[simp] theorem ev_setD (n : Int) : setD S (.hdl k) (.int n) d = kSetH S k n d (S[k]?) := by
  simp only [setD]; unfold kSetH; generalize S[k]? = z; cases z with
  | none => rfl
  | some o => cases o <;> rfl
def kSetJ (S : Sto) (k : Nat) (l : List Dv) (v : Dv) : Option Nat → Option Sto
  | some j => some (S.set k (.lst (l.set j v)))
  | none => none
@[simp] theorem kSetH_lst (n : Int) : kSetH S k n d (some (.lst l)) = kSetJ S k l d (ixN l.length n) := by simp only [kSetH]; generalize ixN l.length n = z; cases z <;> rfl
@[simp] theorem kSetJ_some : kSetJ S k l d (some j) = some (S.set k (.lst (l.set j d))) := rfl
def qAug1 (op : Dv → Dv → Option Dv) (fi fv : DE) (e : Env) (o : Dv) (S : Sto) : Out := sBind fi (fun e i S2 => match ixL S2 o i with
  | some x => sBind fv (fun e y S3 => match op x y with
    | some z => (match setD S3 o i z with
      | some S4 => .nx e S4
      | none => .no)
    | none => .no) e S2
  | none => .no) e S
def kAug2 (op : Dv → Dv → Option Dv) (fv : DE) (o i : Dv) (e : Env) (S : Sto) : Option Dv → Out
  | some x => sBind fv (fun e y S3 => match op x y with
    | some z => (match setD S3 o i z with
      | some S4 => .nx e S4
      | none => .no)
    | none => .no) e S
  | none => .no
def qAug2 (op : Dv → Dv → Option Dv) (fv : DE) (o : Dv) (e : Env) (i : Dv) (S : Sto) : Out := kAug2 op fv o i e S (ixL S o i)
def kAug4 (o i : Dv) (e : Env) (S : Sto) : Option Dv → Out
  | some z => kSet e (setD S o i z)
  | none => .no
def qAug3 (op : Dv → Dv → Option Dv) (o i x : Dv) (e : Env) (y : Dv) (S : Sto) : Out := kAug4 o i e S (op x y)
@[simp] theorem ev_augI (op : Dv → Dv → Option Dv) : sAugI op fo fi fv e S = kS (qAug1 op fi fv) e (fo e S) := ev_sbind ..
@[simp] theorem ev_qaug1 (op : Dv → Dv → Option Dv) : qAug1 op fi fv e d S = kS (qAug2 op fv d) e (fi e S) := by
  unfold qAug1; rw [ev_sbind]; congr 1
@[simp] theorem ev_qaug2 (op : Dv → Dv → Option Dv) : qAug2 op fv d e d1 S = kAug2 op fv d d1 e S (ixL S d d1) := rfl
@[simp] theorem ev_kaug2 (op : Dv → Dv → Option Dv) : kAug2 op fv d d1 e S (some d2) = kS (qAug3 op d d1 d2) e (fv e S) := by
  unfold kAug2
  simp only
  rw [ev_sbind]; congr 1
@[simp] theorem ev_qaug3 (op : Dv → Dv → Option Dv) : qAug3 op d d1 d2 e d3 S = kAug4 d d1 e S (op d2 d3) := rfl
@[simp] theorem kAug4_some : kAug4 d d1 e S (some d2) = kSet e (setD S d d1 d2) := rfl
def kIxL (i : Int) : Option Ob → Option Dv
  | some (.lst l) => atI l i
  | _ => none
@[simp] theorem ixL_hdl (n : Int) : ixL S (.hdl k) (.int n) = kIxL n (S[k]?) := by
  simp only [ixL, asL]; unfold kIxL; generalize S[k]? = z; cases z with
  | none => rfl
  | some o => cases o <;> rfl
@[simp] theorem kIxL_lst (n : Int) : kIxL n (some (.lst l)) = atI l n := rfl
def qAug (op : Dv → Dv → Option Dv) (n : Nat) (x : Dv) (e : Env) (y : Dv) (S : Sto) : Out := match op x y with
  | some z => .nx (e.set n (.va z)) S
  | none => .no
def kAug (op : Dv → Dv → Option Dv) (n : Nat) (fv : DE) (e : Env) (S : Sto) : Option Sl → Out
  | some (.va x) => kS (qAug op n x) e (fv e S)
  | _ => .no
@[simp] theorem ev_aug (op : Dv → Dv → Option Dv) (n : Nat) : sAug op n fv e S = kAug op n fv e S (e[n]?) := by
  unfold sAug kAug
  cases e[n]? with
  | none => rfl
  | some s => cases s <;> first | rfl | exact ev_sbind ..
@[simp] theorem kAug_va (op : Dv → Dv → Option Dv) (n : Nat) : kAug op n fv e S (some (.va d)) = kS (qAug op n d) e (fv e S) := rfl
@[simp] theorem qAug_add (n : Nat) (p q : Int) : qAug addI n (.int p) e (.int q) S = .nx (e.set n (.va (.int (p + q)))) S := rfl
@[simp] theorem qAug_sub (n : Nat) (p q : Int) : qAug subI n (.int p) e (.int q) S = .nx (e.set n (.va (.int (p - q)))) S := rfl
@[simp] theorem addI_int (p q : Int) : addI (.int p) (.int q) = some (.int (p + q)) := rfl
@[simp] theorem subI_int (p q : Int) : subI (.int p) (.int q) = some (.int (p - q)) := rfl
/-- operators by data -/
@[simp] theorem op_sub_i (p q : Int) : pu2 subD S (.int p) (.int q) = some (.int (p - q), S) := rfl
theorem op_mul_i (p q : Int) (h : (-(2 ^ 64) < p ∧ p < 2 ^ 64) ∨ (-(2 ^ 64) < q ∧ q < 2 ^ 64)) : pu2 mulD S (.int p) (.int q) = some (.int (p * q), S) := by
  show (if _ then some (Dv.int (p * q)) else none).map _ = _
  rw [if_pos h]; rfl
theorem op_mod_i (p q : Int) (h : 0 < q) : pu2 modD S (.int p) (.int q) = some (.int (p % q), S) := by
  show (if _ then some (Dv.int (p % q)) else none).map _ = _
  rw [if_pos h]; rfl
theorem op_fdiv_i (p q : Int) (h : 0 < q ∧ q < 1073741824) : pu2 fdivD S (.int p) (.int q) = some (.int (p / q), S) := by
  show (if _ then some (Dv.int (p / q)) else none).map _ = _
  rw [if_pos h]; rfl
@[simp] theorem op_lt_i (p q : Int) : pu2 ltD S (.int p) (.int q) = some (.bl (decide (p < q)), S) := rfl
@[simp] theorem op_le_i (p q : Int) : pu2 leD S (.int p) (.int q) = some (.bl (decide (p ≤ q)), S) := rfl
@[simp] theorem op_gt_i (p q : Int) : pu2 gtD S (.int p) (.int q) = some (.bl (decide (q < p)), S) := rfl
@[simp] theorem op_ge_i (p q : Int) : pu2 geD S (.int p) (.int q) = some (.bl (decide (q ≤ p)), S) := rfl
@[simp] theorem op_add_i (p q : Int) : addD S (.int p) (.int q) = some (.int (p + q), S) := rfl
theorem op_add_s (p q : Str) (h : p.length + q.length ≤ sizeLine) : addD S (.str p) (.str q) = some (.str (p ++ q), S) := if_pos h
theorem op_add_l (h : l.length + l'.length ≤ sizeLine) : addD S (.lst l) (.lst l') = some (.lst (l ++ l'), S) := if_pos h
def kEq (S : Sto) : Option Bool → Option (Dv × Sto)
  | some b => some (.bl b, S)
  | none => none
def kNe (S : Sto) : Option Bool → Option (Dv × Sto)
  | some b => some (.bl (!b), S)
  | none => none
@[simp] theorem ev_eqE : eqE S d1 d2 = kEq S (eqD S d1 d2) := by unfold eqE kEq; cases eqD S d1 d2 <;> rfl
@[simp] theorem ev_neE : neE S d1 d2 = kNe S (eqD S d1 d2) := by unfold neE kNe; cases eqD S d1 d2 <;> rfl
@[simp] theorem kEq_some : kEq S (some b) = some (.bl b, S) := rfl
@[simp] theorem kNe_some : kNe S (some b) = some (.bl (!b), S) := rfl
@[simp] theorem eq_ss (p q : Str) : eqD S (.str p) (.str q) = some (decide (p = q)) := rfl
@[simp] theorem eq_ii (p q : Int) : eqD S (.int p) (.int q) = some (decide (p = q)) := rfl
@[simp] theorem eq_bb (p q : Bool) : eqD S (.bl p) (.bl q) = some (decide (p = q)) := rfl
@[simp] theorem eq_nn : eqD S .non .non = some true := rfl
@[simp] theorem eq_ni (p : Int) : eqD S .non (.int p) = some false := rfl
@[simp] theorem eq_in (p : Int) : eqD S (.int p) .non = some false := rfl
@[simp] theorem eq_ns (p : Str) : eqD S .non (.str p) = some false := rfl
@[simp] theorem eq_sn (p : Str) : eqD S (.str p) .non = some false := rfl
@[simp] theorem eq_si (p : Str) (q : Int) : eqD S (.str p) (.int q) = some false := rfl
@[simp] theorem eq_is (p : Str) (q : Int) : eqD S (.int q) (.str p) = some false := rfl
@[simp] theorem is_non : pu2 (isD false) S d .non = some (.bl (match d with | .non => true | _ => false), S) := by cases d <;> rfl
@[simp] theorem isnot_non : pu2 (isD true) S d .non = some (.bl (match d with | .non => false | _ => true), S) := by cases d <;> rfl
@[simp] theorem is_bb (p q : Bool) : pu2 (isD false) S (.bl p) (.bl q) = some (.bl (decide (p = q)), S) := rfl
@[simp] theorem len_tup : lenD S [.tup l] = some (.int l.length, S) := rfl
@[simp] theorem len_lst : lenD S [.lst l] = some (.int l.length, S) := rfl
@[simp] theorem len_rol : lenD S [.rol l] = some (.int l.length, S) := rfl
theorem len_str (z : Str) (h : z.length ≤ sizeLine) : lenD S [.str z] = some (.int z.length, S) := if_pos h
@[simp] theorem abs_int (p : Int) : absD S [.int p] = some (.int (if p < 0 then -p else p), S) := rfl
@[simp] theorem list_tup : listD S [.tup l] = some (.lst l, S) := rfl
@[simp] theorem list_lst : listD S [.lst l] = some (.lst l, S) := rfl
@[simp] theorem tuple_tup : tupleD S [.tup l] = some (.tup l, S) := rfl
@[simp] theorem tuple_lst : tupleD S [.lst l] = some (.tup l, S) := rfl
def kIx (S : Sto) : Option Dv → Option (Dv × Sto)
  | some d => some (d, S)
  | none => none
@[simp] theorem kIx_some : kIx S (some d) = some (d, S) := rfl
@[simp] theorem ix_tup (n : Int) : ixD S (.tup l) (.int n) = kIx S (atI l n) := by show (atI l n).map _ = _; cases atI l n <;> rfl
@[simp] theorem ix_lst (n : Int) : ixD S (.lst l) (.int n) = kIx S (atI l n) := by show (atI l n).map _ = _; cases atI l n <;> rfl
@[simp] theorem ix_rol (n : Int) : ixD S (.rol l) (.int n) = kIx S (atI l n) := by show (atI l n).map _ = _; cases atI l n <;> rfl
@[simp] theorem ix_hdl (n : Int) : ixD S (.hdl k) (.int n) = kIx S (kIxL n (S[k]?)) := by
  simp only [ixD, asQ, asT, asL]; unfold kIxL; generalize S[k]? = z
  cases z with
  | none => rfl
  | some o => cases o with
    | lst l => simp only [Option.bind_some]; generalize atI l n = q; cases q <;> rfl
    | _ => rfl
@[simp] theorem atI_cons0 {γ : Type} (a : γ) (r : List γ) : atI (a :: r) 0 = some a := by unfold atI ixN; simp
theorem atI_nat' {γ : Type} (r : List γ) (m : Nat) : atI r (m : Int) = r[m]? := by
  unfold atI ixN
  rw [if_pos (by omega)]
  by_cases h : (m : Int) < r.length
  · rw [if_pos h]; simp
  · rw [if_neg h]; simp; omega
@[simp] theorem atI_lit1 {γ : Type} (r : List γ) : atI r 1 = r[1]? := atI_nat' r 1
@[simp] theorem atI_lit2 {γ : Type} (r : List γ) : atI r 2 = r[2]? := atI_nat' r 2
@[simp] theorem atI_lit3 {γ : Type} (r : List γ) : atI r 3 = r[3]? := atI_nat' r 3
@[simp] theorem atI_lit4 {γ : Type} (r : List γ) : atI r 4 = r[4]? := atI_nat' r 4
@[simp] theorem ixN_lit0 (m : Nat) : ixN (m + 1) 0 = some 0 := by unfold ixN; simp
theorem ixN_ok {m : Nat} {n : Int} (h0 : 0 ≤ n) (h1 : n < m) : ixN m n = some n.toNat := by unfold ixN; rw [if_pos h0, if_pos h1]
@[simp] theorem rngD_len (lo : Int) (n : Nat) : (rngD lo n).length = n := by unfold rngD; simp
@[simp] theorem ev_neg : eNeg f e S = bnd (f e S) negD := rfl
@[simp] theorem negD_int (p : Int) : negD (.int p) S = .ok (.int (-p)) S := rfl
/-- a def is run -/
def kRun : Out → Res Dv
  | .rt d S' => .ok d S'
  | .nx _ S' => .ok .non S'
  | .ex c fs _ S' => .ex c fs S'
  | _ => .no
theorem ev_run (np n : Nat) (h : l.length = np) : runF np n s S l = kRun (s (startE n l) S) := by
  unfold runF kRun
  rw [if_pos h]
  try (cases s (startE n l) S <;> rfl)
@[simp] theorem kRun_rt : kRun (.rt d S) = .ok d S := rfl
@[simp] theorem kRun_nx : kRun (.nx e S) = .ok .non S := rfl
@[simp] theorem kRun_ex : kRun (.ex c fs e S) = .ex c fs S := rfl
@[simp] theorem bnd_ex (k : α → Sto → Res β) : bnd (.ex c fs S) k = .ex c fs S := rfl
/-- cuts, parts -/
@[simp] theorem ev_onone : oNone e S = .ok none S := rfl
@[simp] theorem ev_osome : oSome f e S = bnd (f e S) oInt := rfl
@[simp] theorem oInt_int (p : Int) : oInt (.int p) S = .ok (some p) S := rfl
def kCut1 (lo hi : DO) (e : Env) (d : Dv) (S : Sto) : Res Dv := bnd (lo e S) fun l S2 => bnd (hi e S2) fun h S3 => ofO (cutD S3 d l h)
def kCut2 (hi : DO) (e : Env) (d : Dv) (l : Option Int) (S : Sto) : Res Dv := bnd (hi e S) fun h S3 => ofO (cutD S3 d l h)
def kCut3 (d : Dv) (l h : Option Int) (S : Sto) : Res Dv := ofO (cutD S d l h)
@[simp] theorem ev_cut (lo hi : DO) : eCut f lo hi e S = bnd (f e S) (kCut1 lo hi e) := rfl
@[simp] theorem ev_cut1 (lo hi : DO) : kCut1 lo hi e d S = bnd (lo e S) (kCut2 hi e d) := rfl
@[simp] theorem ev_cut2 (hi : DO) (z : Option Int) : kCut2 hi e d z S = bnd (hi e S) (kCut3 d z) := rfl
@[simp] theorem ev_cut3 (y z : Option Int) : kCut3 d y z S = ofO (cutD S d y z) := rfl
@[simp] theorem cut_tup (y z : Option Int) : cutD S (.tup l) y z = some (.tup (cutG l y z), S) := rfl
@[simp] theorem cut_lst (y z : Option Int) : cutD S (.lst l) y z = some (.lst (cutG l y z), S) := rfl
@[simp] theorem cut_rol (y z : Option Int) : cutD S (.rol l) y z = some (.lst (cutG l y z), S) := rfl
/-- texts walked, dicts, texts' methods -/
@[simp] theorem seqR_str (z : Str) : seqR (.str z) S = .ok (strL z) S := rfl
def kFzD (m : List (Key × Dv)) (S : Sto) : Res Dv := .ok (.dic m) S
@[simp] theorem ev_frzD (fd : DD) : eFrzD fd e S = bnd (fd e S) kFzD := rfl
@[simp] theorem ev_kfzD (m : List (Key × Dv)) : kFzD m S = .ok (.dic m) S := rfl
@[simp] theorem ev_dnil : dNil e S = .ok [] S := rfl
@[simp] theorem ev_pnil : pNil e S = .ok [] S := rfl
def kP1 (fv : DE) (fp : DP) (e : Env) (k : Dv) (S : Sto) : Res (List (Dv × Dv)) := bnd (fv e S) fun v S2 => bnd (fp e S2) fun l S3 => .ok ((k, v) :: l) S3
def kP2 (fp : DP) (e : Env) (k v : Dv) (S : Sto) : Res (List (Dv × Dv)) := bnd (fp e S) fun l S3 => .ok ((k, v) :: l) S3
def kP3 (k v : Dv) (m : List (Dv × Dv)) (S : Sto) : Res (List (Dv × Dv)) := .ok ((k, v) :: m) S
@[simp] theorem ev_pcons (fp : DP) : pCons f1 f2 fp e S = bnd (f1 e S) (kP1 f2 fp e) := rfl
@[simp] theorem ev_p1 (fp : DP) : kP1 f2 fp e d S = bnd (f2 e S) (kP2 fp e d) := rfl
@[simp] theorem ev_p2 (fp : DP) : kP2 fp e d1 d2 S = bnd (fp e S) (kP3 d1 d2) := rfl
@[simp] theorem ev_p3 (m : List (Dv × Dv)) : kP3 d1 d2 m S = .ok ((d1, d2) :: m) S := rfl
@[simp] theorem ev_disp (fp : DP) : dDisp fp e S = bnd (fp e S) kDisp := rfl
def kStr2 (h : Sto → Str → List Dv → Option (Dv × Sto)) (z : Str) (l : List Dv) (S : Sto) : Res Dv := ofO (h S z l)
@[simp] theorem ev_strM (h : Sto → Str → List Dv → Option (Dv × Sto)) : eStrM h f fa e S = bnd (f e S) (kStrM h fa e) := rfl
@[simp] theorem ev_kstrM (h : Sto → Str → List Dv → Option (Dv × Sto)) (z : Str) : kStrM h fa e (.str z) S = bnd (fa e S) (kStr2 h z) := rfl
@[simp] theorem ev_kstr2 (h : Sto → Str → List Dv → Option (Dv × Sto)) (z : Str) : kStr2 h z l S = ofO (h S z l) := rfl
def kLenO (S : Sto) : Option Sl → Res Dv
  | some (.own (.lst l)) => .ok (.int l.length) S
  | _ => .no
@[simp] theorem ev_lenO : eLenO i e S = kLenO S (e[i]?) := by unfold eLenO kLenO; rcases e[i]? with _ | (_ | _ | (l | _ | _ | _)) <;> rfl
@[simp] theorem kLenO_ow : kLenO S (some (.ow l)) = .ok (.int l.length) S := rfl
def kHd (i : Nat) (e : Env) (S : Sto) : Option Sl → Out
  | some (.own o) => .nx (e.set i (.va (.hdl S.length))) (S ++ [o])
  | _ => .no
@[simp] theorem ev_shdl : sHdl i e S = kHd i e S (e[i]?) := by unfold sHdl kHd; cases e[i]? with
  | none => rfl
  | some s => cases s <;> rfl
@[simp] theorem kHd_ow (o : Ob) : kHd i e S (some (.own o)) = .nx (e.set i (.va (.hdl S.length))) (S ++ [o]) := rfl
def kHM1 (h : List Dv → List Dv → Option (List Dv × Dv)) (fa : DA) (e : Env) (o : Dv) (S : Sto) : Res Dv := if lstHd S o then bnd (fa e S) fun as S2 => hdlM h S2 o as else .no
def kHM2 (h : List Dv → List Dv → Option (List Dv × Dv)) (o : Dv) (as : List Dv) (S : Sto) : Res Dv := hdlM h S o as
def kHM3 (h : List Dv → List Dv → Option (List Dv × Dv)) (fa : DA) (e : Env) (o : Dv) (S : Sto) (b : Bool) : Res Dv := if b then bnd (fa e S) (kHM2 h o) else .no
@[simp] theorem ev_hdlM (h : List Dv → List Dv → Option (List Dv × Dv)) : eHdlM h f fa e S = bnd (f e S) (kHM1 h fa e) := rfl
@[simp] theorem ev_khm1 (h : List Dv → List Dv → Option (List Dv × Dv)) : kHM1 h fa e d S = kHM3 h fa e d S (lstHd S d) := rfl
@[simp] theorem ev_khm3 (h : List Dv → List Dv → Option (List Dv × Dv)) : kHM3 h fa e d S true = bnd (fa e S) (kHM2 h d) := rfl
@[simp] theorem ev_khm2 (h : List Dv → List Dv → Option (List Dv × Dv)) : kHM2 h d l S = hdlM h S d l := rfl
def kLh : Option Ob → Bool
  | some (.lst _) => true
  | _ => false
@[simp] theorem lstHd_hdl : lstHd S (.hdl k) = kLh (S[k]?) := by simp only [lstHd]; unfold kLh; generalize S[k]? = z; cases z with
  | none => rfl
  | some o => cases o <;> rfl
@[simp] theorem kLh_lst : kLh (some (.lst l)) = true := rfl
end
section
variable {α β : Type} (S S' : Sto) (e : Env) (d d1 d2 d3 : Dv) (l l' : List Dv) (f f1 f2 f3 fo fi fv : DE) (t t1 t2 : DT) (fa : DA) (fl : DL) (fn : DN) (fdd : DD) (fb : DB) (s s1 s2 : DS) (o : Ob) (ss : List Sl) (i j k : Nat) (b : Bool) (c : Str) (fs : List (Str × Dv)) (m : List (Key × Dv))
/-- what may be own -/
def kAny (S : Sto) : Option Sl → Res Dv
  | some (.own o) => .ok (vwO o) S
  | some (.va d) => .ok d S
  | _ => .no
@[simp] theorem ev_any : eAny i e S = kAny S (e[i]?) := by unfold eAny kAny; rfl
@[simp] theorem kAny_va : kAny S (some (.va d)) = .ok d S := rfl
@[simp] theorem kAny_ow : kAny S (some (.ow l)) = .ok (.lst l) S := rfl
@[simp] theorem kAny_od : kAny S (some (.od m)) = .ok (.dic m) S := rfl
def kFy (i : Nat) (e : Env) (S : Sto) : Option Sl → Out
  | some (.own o) => .nx (e.set i (.va (frzO o))) S
  | some (.va _) => .nx e S
  | _ => .no
@[simp] theorem ev_sfz : sFz i e S = kFy i e S (e[i]?) := by unfold sFz kFy; rfl
@[simp] theorem kFy_va : kFy i e S (some (.va d)) = .nx e S := rfl
@[simp] theorem kFy_ow : kFy i e S (some (.ow l)) = .nx (e.set i (.va (.lst l))) S := rfl
@[simp] theorem kFy_od : kFy i e S (some (.od m)) = .nx (e.set i (.va (.dic m))) S := rfl
/-- new things -/
def kNL (l : List Dv) (S : Sto) : Res Ob := .ok (.lst l) S
@[simp] theorem ev_nL : nL fl e S = bnd (fl e S) kNL := rfl
@[simp] theorem ev_kNL : kNL l S = .ok (.lst l) S := rfl
def kND (l : List (Key × Dv)) (S : Sto) : Res Ob := .ok (.dct l) S
@[simp] theorem ev_nD : nD fdd e S = bnd (fdd e S) kND := rfl
@[simp] theorem ev_kND : kND m S = .ok (.dct m) S := rfl
def kFN (o : Ob) (S : Sto) : Res Dv := .ok (frzO o) S
@[simp] theorem ev_frzN : eFrzN fn e S = bnd (fn e S) kFN := rfl
@[simp] theorem ev_kFN : kFN o S = .ok (frzO o) S := rfl
@[simp] theorem frzO_l : frzO (.lst l) = .lst l := rfl
@[simp] theorem frzO_d : frzO (.dct m) = .dic m := rfl
@[simp] theorem frzO_i : frzO (.ins c fs) = .obj c fs := rfl
def kHN (o : Ob) (S : Sto) : Res Dv := .ok (.hdl S.length) (S ++ [o])
@[simp] theorem ev_hdlN : eHdlN fn e S = bnd (fn e S) kHN := rfl
@[simp] theorem ev_kHN : kHN o S = .ok (.hdl S.length) (S ++ [o]) := rfl
def qOwnN (i : Nat) (e : Env) (o : Ob) (S : Sto) : Out := .nx (e.set i (.own o)) S
@[simp] theorem ev_ownN : sOwnN i fn e S = kS (qOwnN i) e (fn e S) := ev_sbind ..
@[simp] theorem ev_qownN : qOwnN i e o S = .nx (e.set i (.own o)) S := rfl
@[simp] theorem ev_bnil : bNil e S = .ok [] S := rfl
def kB1' (fb : DB) (e : Env) (d : Dv) (S : Sto) : Res (List Sl) := bnd (fb e S) fun l S2 => .ok (.va d :: l) S2
def kB2' (d : Dv) (l : List Sl) (S : Sto) : Res (List Sl) := .ok (.va d :: l) S
def kB3' (fb : DB) (e : Env) (o : Ob) (S : Sto) : Res (List Sl) := bnd (fb e S) fun l S2 => .ok (.own o :: l) S2
def kB4' (o : Ob) (l : List Sl) (S : Sto) : Res (List Sl) := .ok (.own o :: l) S
@[simp] theorem ev_bva : bVa f fb e S = bnd (f e S) (kB1' fb e) := rfl
@[simp] theorem ev_bown : bOwn fn fb e S = bnd (fn e S) (kB3' fb e) := rfl
@[simp] theorem ev_b1' : kB1' fb e d S = bnd (fb e S) (kB2' d) := rfl
@[simp] theorem ev_b2' : kB2' d ss S = .ok (.va d :: ss) S := rfl
@[simp] theorem ev_b3' : kB3' fb e o S = bnd (fb e S) (kB4' o) := rfl
@[simp] theorem ev_b4' : kB4' o ss S = .ok (.own o :: ss) S := rfl
def qParB (is : List Nat) (e : Env) (ss : List Sl) (S : Sto) : Out := if ss.length = is.length then .nx (setSs is ss e) S else .no
@[simp] theorem ev_parB (is : List Nat) : sParB is fb e S = kS (qParB is) e (fb e S) := ev_sbind ..
@[simp] theorem ev_qparB2 (s1 s2 : Sl) : qParB [i, j] e [s1, s2] S = .nx ((e.set i s1).set j s2) S := rfl
@[simp] theorem ev_qparB3 (s1 s2 s3 : Sl) : qParB [i, j, k] e [s1, s2, s3] S = .nx (((e.set i s1).set j s2).set k s3) S := rfl
def qSO3 (i : Nat) (l : List Dv) (v : Dv) (e : Env) (S : Sto) : Option Nat → Out
  | some j => .nx (e.set i (.ow (l.set j v))) S
  | none => .no
def qSO2 (i : Nat) (l : List Dv) (v : Dv) (e : Env) (n : Dv) (S : Sto) : Out := match n with
  | .int n => qSO3 i l v e S (ixN l.length n)
  | _ => .no
def qSO1 (i : Nat) (fi : DE) (v : Dv) (e : Env) (S : Sto) : Option Sl → Out
  | some (.own (.lst l)) => kS (qSO2 i l v) e (fi e S)
  | _ => .no
def qSO (i : Nat) (fi : DE) (e : Env) (v : Dv) (S : Sto) : Out := qSO1 i fi v e S (e[i]?)
@[simp] theorem ev_setO : sSetO i fi fv e S = kS (qSO i fi) e (fv e S) := by
  unfold sSetO
  rw [ev_sbind]
  congr 1
@[simp] theorem ev_qSO : qSO i fi e d S = qSO1 i fi d e S (e[i]?) := rfl
@[simp] theorem ev_qSO1 : qSO1 i fi d e S (some (.ow l)) = kS (qSO2 i l d) e (fi e S) := rfl
@[simp] theorem ev_qSO2 (n : Int) : qSO2 i l d e (.int n) S = qSO3 i l d e S (ixN l.length n) := rfl
@[simp] theorem ev_qSO3 : qSO3 i l d e S (some j) = .nx (e.set i (.ow (l.set j d))) S := rfl
@[simp] theorem ev_fList : fList fa e S = bnd (fa e S) listK := rfl
@[simp] theorem listK_tup : listK [.tup l] S = .ok l S := rfl
@[simp] theorem listK_lst : listK [.lst l] S = .ok l S := rfl
@[simp] theorem listK_rol : listK [.rol l] S = .ok l S := rfl
/-- chains, ranges asked -/
def kC1 (h h' : Sto → Dv → Dv → Option (Dv × Sto)) (f2 f3 : DE) (e : Env) (a : Dv) (S : Sto) : Res Dv := bnd (f2 e S) fun b S2 => bnd (ofO (h S2 a b)) fun z S3 => match z with
  | .bl true => bnd (f3 e S3) fun c S4 => ofO (h' S4 b c)
  | .bl false => .ok (.bl false) S3
  | _ => .no
def kC3 (h' : Sto → Dv → Dv → Option (Dv × Sto)) (f3 : DE) (e : Env) (b : Dv) (z : Dv) (S : Sto) : Res Dv := match z with
  | .bl true => bnd (f3 e S) (kB2 h' b)
  | .bl false => .ok (.bl false) S
  | _ => .no
def kC2 (h h' : Sto → Dv → Dv → Option (Dv × Sto)) (f3 : DE) (e : Env) (a b : Dv) (S : Sto) : Res Dv := bnd (ofO (h S a b)) (kC3 h' f3 e b)
@[simp] theorem ev_chn (h h' : Sto → Dv → Dv → Option (Dv × Sto)) : eChn h h' f1 f2 f3 e S = bnd (f1 e S) (kC1 h h' f2 f3 e) := rfl
@[simp] theorem ev_c1 (h h' : Sto → Dv → Dv → Option (Dv × Sto)) : kC1 h h' f2 f3 e d S = bnd (f2 e S) (kC2 h h' f3 e d) := by
  unfold kC1
  congr 1
@[simp] theorem ev_c2 (h h' : Sto → Dv → Dv → Option (Dv × Sto)) : kC2 h h' f3 e d1 d2 S = bnd (ofO (h S d1 d2)) (kC3 h' f3 e d2) := rfl
@[simp] theorem ev_c3t (h' : Sto → Dv → Dv → Option (Dv × Sto)) : kC3 h' f3 e d (.bl true) S = bnd (f3 e S) (kB2 h' d) := rfl
@[simp] theorem ev_c3f (h' : Sto → Dv → Dv → Option (Dv × Sto)) : kC3 h' f3 e d (.bl false) S = .ok (.bl false) S := rfl
def kR1 (neg : Bool) (fa : DA) (e : Env) (a : Dv) (S : Sto) : Res Dv := bnd (fa e S) fun l S2 => rngK neg a l S2
@[simp] theorem ev_rngIn : eRngIn b f1 fa e S = bnd (f1 e S) (kR1 b fa e) := rfl
@[simp] theorem ev_kR1 : kR1 b fa e d S = bnd (fa e S) (rngK b d) := rfl
@[simp] theorem rngK_f (p lo hi : Int) : rngK false (.int p) [.int lo, .int hi] S = .ok (.bl (decide (lo ≤ p ∧ p < hi))) S := rfl
@[simp] theorem rngK_t (p lo hi : Int) : rngK true (.int p) [.int lo, .int hi] S = .ok (.bl (!decide (lo ≤ p ∧ p < hi))) S := rfl
/-- a name that stands for a def -/
def kCL (t : Str → Option DF) (fa : DA) (e : Env) (S : Sto) : Option Sl → Res Dv
  | some (.va (.glo x)) => match t x with
    | some g => bnd (fa e S) (kCall g)
    | none => .no
  | _ => .no
@[simp] theorem ev_callL (t : Str → Option DF) : eCallL t i fa e S = kCL t fa e S (e[i]?) := by unfold eCallL kCL; rfl
end
end DL
namespace DL
open PySem L2
section
variable (S : Sto) (b : Bool) (p : Int) (x : Str) (l : List Dv) (m : List (Key × Dv)) (k : Nat)
theorem kit_NoneType_str : kitB "NoneType" "str" = some false := by decide +kernel
theorem kit_NoneType_int : kitB "NoneType" "int" = some false := by decide +kernel
theorem kit_NoneType_bool : kitB "NoneType" "bool" = some false := by decide +kernel
theorem kit_NoneType_tuple : kitB "NoneType" "tuple" = some false := by decide +kernel
theorem kit_NoneType_list : kitB "NoneType" "list" = some false := by decide +kernel
theorem kit_NoneType_dict : kitB "NoneType" "dict" = some false := by decide +kernel
theorem kit_bool_str : kitB "bool" "str" = some false := by decide +kernel
theorem kit_bool_int : kitB "bool" "int" = some true := by decide +kernel
theorem kit_bool_bool : kitB "bool" "bool" = some true := by decide +kernel
theorem kit_bool_tuple : kitB "bool" "tuple" = some false := by decide +kernel
theorem kit_bool_list : kitB "bool" "list" = some false := by decide +kernel
theorem kit_bool_dict : kitB "bool" "dict" = some false := by decide +kernel
theorem kit_int_str : kitB "int" "str" = some false := by decide +kernel
theorem kit_int_int : kitB "int" "int" = some true := by decide +kernel
theorem kit_int_bool : kitB "int" "bool" = some false := by decide +kernel
theorem kit_int_tuple : kitB "int" "tuple" = some false := by decide +kernel
theorem kit_int_list : kitB "int" "list" = some false := by decide +kernel
theorem kit_int_dict : kitB "int" "dict" = some false := by decide +kernel
theorem kit_str_str : kitB "str" "str" = some true := by decide +kernel
theorem kit_str_int : kitB "str" "int" = some false := by decide +kernel
theorem kit_str_bool : kitB "str" "bool" = some false := by decide +kernel
theorem kit_str_tuple : kitB "str" "tuple" = some false := by decide +kernel
theorem kit_str_list : kitB "str" "list" = some false := by decide +kernel
theorem kit_str_dict : kitB "str" "dict" = some false := by decide +kernel
theorem kit_tuple_str : kitB "tuple" "str" = some false := by decide +kernel
theorem kit_tuple_int : kitB "tuple" "int" = some false := by decide +kernel
theorem kit_tuple_bool : kitB "tuple" "bool" = some false := by decide +kernel
theorem kit_tuple_tuple : kitB "tuple" "tuple" = some true := by decide +kernel
theorem kit_tuple_list : kitB "tuple" "list" = some false := by decide +kernel
theorem kit_tuple_dict : kitB "tuple" "dict" = some false := by decide +kernel
theorem kit_list_str : kitB "list" "str" = some false := by decide +kernel
theorem kit_list_int : kitB "list" "int" = some false := by decide +kernel
theorem kit_list_bool : kitB "list" "bool" = some false := by decide +kernel
theorem kit_list_tuple : kitB "list" "tuple" = some false := by decide +kernel
theorem kit_list_list : kitB "list" "list" = some true := by decide +kernel
theorem kit_list_dict : kitB "list" "dict" = some false := by decide +kernel
theorem kit_dict_str : kitB "dict" "str" = some false := by decide +kernel
theorem kit_dict_int : kitB "dict" "int" = some false := by decide +kernel
theorem kit_dict_bool : kitB "dict" "bool" = some false := by decide +kernel
theorem kit_dict_tuple : kitB "dict" "tuple" = some false := by decide +kernel
theorem kit_dict_list : kitB "dict" "list" = some false := by decide +kernel
theorem kit_dict_dict : kitB "dict" "dict" = some true := by decide +kernel
@[simp] theorem isi_non_str : isiD S [.non, .ty "str"] = some (.bl false, S) := by simp only [isiD, tyD, Option.bind_some, kit_NoneType_str, Option.map_some]
@[simp] theorem isi_non_int : isiD S [.non, .ty "int"] = some (.bl false, S) := by simp only [isiD, tyD, Option.bind_some, kit_NoneType_int, Option.map_some]
@[simp] theorem isi_non_bool : isiD S [.non, .ty "bool"] = some (.bl false, S) := by simp only [isiD, tyD, Option.bind_some, kit_NoneType_bool, Option.map_some]
@[simp] theorem isi_non_tuple : isiD S [.non, .ty "tuple"] = some (.bl false, S) := by simp only [isiD, tyD, Option.bind_some, kit_NoneType_tuple, Option.map_some]
@[simp] theorem isi_non_list : isiD S [.non, .ty "list"] = some (.bl false, S) := by simp only [isiD, tyD, Option.bind_some, kit_NoneType_list, Option.map_some]
@[simp] theorem isi_non_dict : isiD S [.non, .ty "dict"] = some (.bl false, S) := by simp only [isiD, tyD, Option.bind_some, kit_NoneType_dict, Option.map_some]
@[simp] theorem isi_non_tl : isiD S [.non, .tup [.ty "tuple", .ty "list"]] = some (.bl false, S) := by simp [isiD, tyD, kitD, tysOf, kitS, kit_NoneType_tuple, kit_NoneType_list]
@[simp] theorem isi_bl_str : isiD S [(.bl b), .ty "str"] = some (.bl false, S) := by simp only [isiD, tyD, Option.bind_some, kit_bool_str, Option.map_some]
@[simp] theorem isi_bl_int : isiD S [(.bl b), .ty "int"] = some (.bl true, S) := by simp only [isiD, tyD, Option.bind_some, kit_bool_int, Option.map_some]
@[simp] theorem isi_bl_bool : isiD S [(.bl b), .ty "bool"] = some (.bl true, S) := by simp only [isiD, tyD, Option.bind_some, kit_bool_bool, Option.map_some]
@[simp] theorem isi_bl_tuple : isiD S [(.bl b), .ty "tuple"] = some (.bl false, S) := by simp only [isiD, tyD, Option.bind_some, kit_bool_tuple, Option.map_some]
@[simp] theorem isi_bl_list : isiD S [(.bl b), .ty "list"] = some (.bl false, S) := by simp only [isiD, tyD, Option.bind_some, kit_bool_list, Option.map_some]
@[simp] theorem isi_bl_dict : isiD S [(.bl b), .ty "dict"] = some (.bl false, S) := by simp only [isiD, tyD, Option.bind_some, kit_bool_dict, Option.map_some]
@[simp] theorem isi_bl_tl : isiD S [(.bl b), .tup [.ty "tuple", .ty "list"]] = some (.bl false, S) := by simp [isiD, tyD, kitD, tysOf, kitS, kit_bool_tuple, kit_bool_list]
@[simp] theorem isi_int_str : isiD S [(.int p), .ty "str"] = some (.bl false, S) := by simp only [isiD, tyD, Option.bind_some, kit_int_str, Option.map_some]
@[simp] theorem isi_int_int : isiD S [(.int p), .ty "int"] = some (.bl true, S) := by simp only [isiD, tyD, Option.bind_some, kit_int_int, Option.map_some]
@[simp] theorem isi_int_bool : isiD S [(.int p), .ty "bool"] = some (.bl false, S) := by simp only [isiD, tyD, Option.bind_some, kit_int_bool, Option.map_some]
@[simp] theorem isi_int_tuple : isiD S [(.int p), .ty "tuple"] = some (.bl false, S) := by simp only [isiD, tyD, Option.bind_some, kit_int_tuple, Option.map_some]
@[simp] theorem isi_int_list : isiD S [(.int p), .ty "list"] = some (.bl false, S) := by simp only [isiD, tyD, Option.bind_some, kit_int_list, Option.map_some]
@[simp] theorem isi_int_dict : isiD S [(.int p), .ty "dict"] = some (.bl false, S) := by simp only [isiD, tyD, Option.bind_some, kit_int_dict, Option.map_some]
@[simp] theorem isi_int_tl : isiD S [(.int p), .tup [.ty "tuple", .ty "list"]] = some (.bl false, S) := by simp [isiD, tyD, kitD, tysOf, kitS, kit_int_tuple, kit_int_list]
@[simp] theorem isi_str_str : isiD S [(.str x), .ty "str"] = some (.bl true, S) := by simp only [isiD, tyD, Option.bind_some, kit_str_str, Option.map_some]
@[simp] theorem isi_str_int : isiD S [(.str x), .ty "int"] = some (.bl false, S) := by simp only [isiD, tyD, Option.bind_some, kit_str_int, Option.map_some]
@[simp] theorem isi_str_bool : isiD S [(.str x), .ty "bool"] = some (.bl false, S) := by simp only [isiD, tyD, Option.bind_some, kit_str_bool, Option.map_some]
@[simp] theorem isi_str_tuple : isiD S [(.str x), .ty "tuple"] = some (.bl false, S) := by simp only [isiD, tyD, Option.bind_some, kit_str_tuple, Option.map_some]
@[simp] theorem isi_str_list : isiD S [(.str x), .ty "list"] = some (.bl false, S) := by simp only [isiD, tyD, Option.bind_some, kit_str_list, Option.map_some]
@[simp] theorem isi_str_dict : isiD S [(.str x), .ty "dict"] = some (.bl false, S) := by simp only [isiD, tyD, Option.bind_some, kit_str_dict, Option.map_some]
@[simp] theorem isi_str_tl : isiD S [(.str x), .tup [.ty "tuple", .ty "list"]] = some (.bl false, S) := by simp [isiD, tyD, kitD, tysOf, kitS, kit_str_tuple, kit_str_list]
@[simp] theorem isi_tup_str : isiD S [(.tup l), .ty "str"] = some (.bl false, S) := by simp only [isiD, tyD, Option.bind_some, kit_tuple_str, Option.map_some]
@[simp] theorem isi_tup_int : isiD S [(.tup l), .ty "int"] = some (.bl false, S) := by simp only [isiD, tyD, Option.bind_some, kit_tuple_int, Option.map_some]
@[simp] theorem isi_tup_bool : isiD S [(.tup l), .ty "bool"] = some (.bl false, S) := by simp only [isiD, tyD, Option.bind_some, kit_tuple_bool, Option.map_some]
@[simp] theorem isi_tup_tuple : isiD S [(.tup l), .ty "tuple"] = some (.bl true, S) := by simp only [isiD, tyD, Option.bind_some, kit_tuple_tuple, Option.map_some]
@[simp] theorem isi_tup_list : isiD S [(.tup l), .ty "list"] = some (.bl false, S) := by simp only [isiD, tyD, Option.bind_some, kit_tuple_list, Option.map_some]
@[simp] theorem isi_tup_dict : isiD S [(.tup l), .ty "dict"] = some (.bl false, S) := by simp only [isiD, tyD, Option.bind_some, kit_tuple_dict, Option.map_some]
@[simp] theorem isi_tup_tl : isiD S [(.tup l), .tup [.ty "tuple", .ty "list"]] = some (.bl true, S) := by simp [isiD, tyD, kitD, tysOf, kitS, kit_tuple_tuple, kit_tuple_list]
@[simp] theorem isi_lst_str : isiD S [(.lst l), .ty "str"] = some (.bl false, S) := by simp only [isiD, tyD, Option.bind_some, kit_list_str, Option.map_some]
@[simp] theorem isi_lst_int : isiD S [(.lst l), .ty "int"] = some (.bl false, S) := by simp only [isiD, tyD, Option.bind_some, kit_list_int, Option.map_some]
@[simp] theorem isi_lst_bool : isiD S [(.lst l), .ty "bool"] = some (.bl false, S) := by simp only [isiD, tyD, Option.bind_some, kit_list_bool, Option.map_some]
@[simp] theorem isi_lst_tuple : isiD S [(.lst l), .ty "tuple"] = some (.bl false, S) := by simp only [isiD, tyD, Option.bind_some, kit_list_tuple, Option.map_some]
@[simp] theorem isi_lst_list : isiD S [(.lst l), .ty "list"] = some (.bl true, S) := by simp only [isiD, tyD, Option.bind_some, kit_list_list, Option.map_some]
@[simp] theorem isi_lst_dict : isiD S [(.lst l), .ty "dict"] = some (.bl false, S) := by simp only [isiD, tyD, Option.bind_some, kit_list_dict, Option.map_some]
@[simp] theorem isi_lst_tl : isiD S [(.lst l), .tup [.ty "tuple", .ty "list"]] = some (.bl true, S) := by simp [isiD, tyD, kitD, tysOf, kitS, kit_list_tuple, kit_list_list]
@[simp] theorem isi_rol_str : isiD S [(.rol l), .ty "str"] = some (.bl false, S) := by simp only [isiD, tyD, Option.bind_some, kit_list_str, Option.map_some]
@[simp] theorem isi_rol_int : isiD S [(.rol l), .ty "int"] = some (.bl false, S) := by simp only [isiD, tyD, Option.bind_some, kit_list_int, Option.map_some]
@[simp] theorem isi_rol_bool : isiD S [(.rol l), .ty "bool"] = some (.bl false, S) := by simp only [isiD, tyD, Option.bind_some, kit_list_bool, Option.map_some]
@[simp] theorem isi_rol_tuple : isiD S [(.rol l), .ty "tuple"] = some (.bl false, S) := by simp only [isiD, tyD, Option.bind_some, kit_list_tuple, Option.map_some]
@[simp] theorem isi_rol_list : isiD S [(.rol l), .ty "list"] = some (.bl true, S) := by simp only [isiD, tyD, Option.bind_some, kit_list_list, Option.map_some]
@[simp] theorem isi_rol_dict : isiD S [(.rol l), .ty "dict"] = some (.bl false, S) := by simp only [isiD, tyD, Option.bind_some, kit_list_dict, Option.map_some]
@[simp] theorem isi_rol_tl : isiD S [(.rol l), .tup [.ty "tuple", .ty "list"]] = some (.bl true, S) := by simp [isiD, tyD, kitD, tysOf, kitS, kit_list_tuple, kit_list_list]
@[simp] theorem isi_dic_str : isiD S [(.dic m), .ty "str"] = some (.bl false, S) := by simp only [isiD, tyD, Option.bind_some, kit_dict_str, Option.map_some]
@[simp] theorem isi_dic_int : isiD S [(.dic m), .ty "int"] = some (.bl false, S) := by simp only [isiD, tyD, Option.bind_some, kit_dict_int, Option.map_some]
@[simp] theorem isi_dic_bool : isiD S [(.dic m), .ty "bool"] = some (.bl false, S) := by simp only [isiD, tyD, Option.bind_some, kit_dict_bool, Option.map_some]
@[simp] theorem isi_dic_tuple : isiD S [(.dic m), .ty "tuple"] = some (.bl false, S) := by simp only [isiD, tyD, Option.bind_some, kit_dict_tuple, Option.map_some]
@[simp] theorem isi_dic_list : isiD S [(.dic m), .ty "list"] = some (.bl false, S) := by simp only [isiD, tyD, Option.bind_some, kit_dict_list, Option.map_some]
@[simp] theorem isi_dic_dict : isiD S [(.dic m), .ty "dict"] = some (.bl true, S) := by simp only [isiD, tyD, Option.bind_some, kit_dict_dict, Option.map_some]
@[simp] theorem isi_dic_tl : isiD S [(.dic m), .tup [.ty "tuple", .ty "list"]] = some (.bl false, S) := by simp [isiD, tyD, kitD, tysOf, kitS, kit_dict_tuple, kit_dict_list]
/-- one sign of a text -/
theorem occ_one (t : Str) (c : Nat) : (!(Builtin.Str.occurrences t ⟨#[c]⟩ 0 t.length 1).isEmpty) = t.cps.toList.contains c := by
  rw [Bool.eq_iff_iff, StrLaws.found_iff, List.contains_iff_mem, List.mem_iff_getElem?]
  exact exists_congr fun i => StrLaws.subAt_one t c i
/-- a sign of a text -/
def hasC (t : Str) (c : Nat) : Bool := t.cps.toList.contains c
def allC (t : Str) (cs : List Nat) : Bool := cs.all (hasC t)
theorem allC_nil (t : Str) : allC t [] = true := rfl
theorem allC_cons (t : Str) (c : Nat) (cs : List Nat) : allC t (c :: cs) = (hasC t c && allC t cs) := rfl
@[simp] theorem ni_one (t : Str) (c : Nat) : inD true S (.str ⟨#[c]⟩) (.str t) = some (.bl (!hasC t c), S) := by
  show some (Dv.bl (!(!(Builtin.Str.occurrences t ⟨#[c]⟩ 0 t.length 1).isEmpty)), S) = _
  rw [occ_one]; rfl
@[simp] theorem in_one (t : Str) (c : Nat) : inD false S (.str ⟨#[c]⟩) (.str t) = some (.bl (hasC t c), S) := by
  show some (Dv.bl (!(Builtin.Str.occurrences t ⟨#[c]⟩ 0 t.length 1).isEmpty), S) = _
  rw [occ_one]; rfl
theorem len_str' (h : x.length ≤ 16777216) : lenD S [.str x] = some (.int x.length, S) := len_str S x (by rw [sizeLine_eq]; exact h)
/-- a turn of a for -/
theorem forR_nx {gd : DG} {body : DS} {d : Dv} {ds : List Dv} {e e1 e2 : Env} {S S1 : Sto} (h1 : gd d e = some e1) (h2 : body e1 S = .nx e2 S1) : forR gd body (d :: ds) e S = forR gd body ds e2 S1 := by simp only [forR, h1, h2]
theorem forR_rt {gd : DG} {body : DS} {d r : Dv} {ds : List Dv} {e e1 : Env} {S S1 : Sto} (h1 : gd d e = some e1) (h2 : body e1 S = .rt r S1) : forR gd body (d :: ds) e S = .rt r S1 := by simp only [forR, h1, h2]
theorem eq_lst_nil : eqD S (.lst l) (.lst []) = some l.isEmpty := by
  cases l with
  | nil =>
    show (if lenNe (asL S (.lst [])) (asL S (.lst [])) then some false else deepE S (.lst []) (.lst [])) = _
    have h : lenNe (asL S (.lst [])) (asL S (.lst [])) = false := rfl
    rw [h, if_neg Bool.false_ne_true]
    show (toP (.lst [])).bind _ = _
    have e : toP (.lst []) = some (.list []) := rfl
    simp only [deepE, e, Option.bind_some]
    have e2 : res S (.lst []) = .lst [] := rfl
    rw [e2, e]
    have e3 : SeqAt.shaped (.list []) = true := by decide
    simp only [Option.bind_some, e3, Bool.and_self, if_true]
    rfl
  | cons d r => rfl
theorem kLcEnd' (h : l.length ≤ 16777216) : kLcEnd (.ok l S) = .ok l S := kLcEnd_ok S l (by rw [sizeLine_eq]; exact h)
theorem lcR_t {tg : DG} {tt : DT} {te : DE} {e e1 : Env} {d y : Dv} {ds l : List Dv} {S S1 S2 S3 : Sto} (h1 : tg d e = some e1) (h2 : tt e1 S = .ok true S1) (h3 : te e1 S1 = .ok y S2) (h4 : lcR tg tt te e ds S2 = .ok l S3) : lcR tg tt te e (d :: ds) S = .ok (y :: l) S3 := by simp only [lcR, h1, h2, h3, h4, if_true]
theorem lcR_f {tg : DG} {tt : DT} {te : DE} {e e1 : Env} {d : Dv} {ds : List Dv} {S S1 : Sto} (h1 : tg d e = some e1) (h2 : tt e1 S = .ok false S1) : lcR tg tt te e (d :: ds) S = lcR tg tt te e ds S1 := by simp only [lcR, h1, h2, Bool.false_eq_true, if_false]
end
end DL
namespace TX
open PySem PySem.Spec PyProof.Rows L2
def ltS (a b : Str) : Prop := a.cps.toList < b.cps.toList
instance (a b : Str) : Decidable (ltS a b) := inferInstanceAs (Decidable (a.cps.toList < b.cps.toList))
def insS (x : Str) : List Str → List Str
  | [] => [x]
  | y :: r => if x = y then y :: r else if ltS x y then x :: y :: r else y :: insS x r
def srtS (l : List Str) : List Str := l.foldr insS []
end TX
namespace DL
open PySem L2
def strsD : List Dv → Option (List Str)
  | [] => some []
  | .str x :: l => (strsD l).map (x :: ·)
  | _ :: _ => none
theorem strsD_ok {K : PySem.W.Frag} {L : Addr → Prop} {io : List Addr} {H : Hp} : ∀ {xs : List V} {l : List Dv} {ws : List Str}, VRs K L io H xs l → strsD l = some ws → xs = ws.map V.str
  | _, _, ws, .nil, h => by cases h; rfl
  | _, _, ws, .cons (d := d) (ds := l) r t, h => by
    cases r <;> simp only [strsD] at h <;> try cases h
    cases hq : strsD l with
    | none => rw [hq] at h; cases h
    | some m =>
      rw [hq] at h
      cases h
      rw [strsD_ok t hq]
      rfl
/-- sorted(set(x)), x a list of texts -/
def srtSetK (l : List Dv) (S : Sto) : Res (List Dv) := match l with
  | [d] => match (asL S d).bind strsD with
    | some ws => if ws.length ≤ 4000 then .ok ((TX.srtS ws).map Dv.str) S else .no
    | none => .no
  | _ => .no
def fSrtSet (fa : DA) : DL := fun e S => bnd (fa e S) srtSetK
end DL
namespace DL
open PySem L2
def repD (S : Sto) (a b : Dv) : Option (Dv × Sto) := match b with
  | .int k => (asH S a).bind fun l => if -(2 ^ 63) ≤ k ∧ k < 2 ^ 63 ∧ l.length * k.toNat ≤ sizeLine then some (.lst (List.replicate k.toNat l).flatten, S) else none
  | _ => none
section
variable {K : PySem.W.Frag} {L : Addr → Prop} {io : List Addr} {H : Hp}
theorem VRs.rep {xs : List V} {l : List Dv} (r : VRs K L io H xs l) : ∀ k : Nat, VRs K L io H (List.replicate k xs).flatten (List.replicate k l).flatten
  | 0 => .nil
  | k + 1 => by
    rw [List.replicate_succ, List.replicate_succ, List.flatten_cons, List.flatten_cons]
    exact r.app (VRs.rep r k)
theorem ops_rep : OpS K rRep repD := by
  intro L io H S x y a b d S' Q sr ra rb e q
  cases b with
  | int k =>
    simp only [repD] at e
    cases h : asH S a with
    | none => rw [h] at e; cases e
    | some l =>
      rw [h] at e
      simp only [Option.bind_some] at e
      split at e
      · rename_i hk
        cases e
        obtain ⟨p1, xs, rfl, e1, r1⟩ := asH_x sr ra h
        cases rb.vr rfl
        exact ⟨_, k, xs, rfl, rfl, e1, hk.1, hk.2.1, by rw [r1.len]; exact hk.2.2, fun p hp => q _ _ L io (Stp.alloc hp) (sr.alloc hp) (VR.newL sr hp (VRs.rep r1 _))⟩
      · cases e
  | _ => cases e
end
theorem qe_rep {X : Cx} {W : WX} {pos : Pos} {a b : Expr} {f1 f2 : DE} (ha : QX X W a f1) (hb : QX X W b f2) : QE X W (.BinOp a .Mult b pos) (eBin repD f1 f2) := qe_op op_rep ops_rep ha hb
/-- sorted(set(x)) as it is run -/
@[simp] theorem ev_srtSet (fa : DA) (e : Env) (S : Sto) : fSrtSet fa e S = bnd (fa e S) srtSetK := rfl
end DL
namespace DL
open PySem L2
section
variable (S S' : Sto) (e : Env) (d d1 d2 d3 : Dv) (l l' : List Dv) (f f1 f2 f3 fo fi fv : DE) (fa : DA) (fl fl1 : DL) (c m x : Str) (g : DF) (k i j : Nat)
@[simp] theorem ev_fld : eFld c x f e S = bnd (f e S) (kFld c x) := rfl
def kFld2 (S : Sto) : Option Dv → Res Dv
  | some x => .ok x S
  | none => .no
@[simp] theorem kFld_obj (fs : List (Str × Dv)) : kFld c x (.obj c fs) S = kFld2 S (fs.lookup x) := by
  simp only [kFld, insOf, if_true]; unfold kFld2; cases fs.lookup x <;> rfl
@[simp] theorem kFld2_some : kFld2 S (some d) = .ok d S := rfl
@[simp] theorem ev_meth (dl : List Dv) : eMeth c m dl g fo fa e S = bnd (fo e S) (kMeth c m dl g fa e) := rfl
def kMe2 (dl : List Dv) (g : DF) (d : Dv) (as : List Dv) (S : Sto) : Res Dv := g S (d :: (as ++ dl))
@[simp] theorem ev_me2 (dl as : List Dv) : kMe2 dl g d as S = g S (d :: (as ++ dl)) := rfl
def kCm (c : Str) (g : DF) (l : List Dv) (S : Sto) : Res Dv := g S (.glo c :: l)
@[simp] theorem ev_cm : eCm c g fa e S = bnd (fa e S) (kCm c g) := rfl
@[simp] theorem ev_kcm : kCm c g l S = g S (.glo c :: l) := rfl
@[simp] theorem ev_tab (t : List (Str × Dv)) : eTab t f e S = bnd (f e S) (tabD t) := rfl
def kTab2 (S : Sto) : Option Dv → Res Dv
  | some x => .ok x S
  | none => .no
@[simp] theorem tabD_str (t : List (Str × Dv)) (z : Str) : tabD t (.str z) S = kTab2 S (t.lookup z) := by simp only [tabD]; unfold kTab2; cases t.lookup z <;> rfl
@[simp] theorem kTab2_some : kTab2 S (some d) = .ok d S := rfl
@[simp] theorem ev_zip : iZip' fa e S = bnd (fa e S) zipR := rfl
@[simp] theorem ev_enum : iEnum' fa e S = bnd (fa e S) enumR := rfl
@[simp] theorem zipR_tt : zipR [.tup l, .tup l'] S = .ok (zipD l l') S := rfl
@[simp] theorem zipR_tl : zipR [.tup l, .lst l'] S = .ok (zipD l l') S := rfl
@[simp] theorem zipR_lt : zipR [.lst l, .tup l'] S = .ok (zipD l l') S := rfl
@[simp] theorem zipR_ll : zipR [.lst l, .lst l'] S = .ok (zipD l l') S := rfl
@[simp] theorem enumR_t : enumR [.tup l] S = .ok (enumD l) S := rfl
@[simp] theorem enumR_l : enumR [.lst l] S = .ok (enumD l) S := rfl
@[simp] theorem ev_ddict : dDict fa e S = bnd (fa e S) dictK := rfl
@[simp] theorem ev_revT : eRevT f e S = bnd (f e S) revD := rfl
end
end DL
namespace DL
open PySem L2
end DL
namespace DL
open PySem L2
end DL
namespace DL
open PySem L2
end DL
namespace DL
open PySem L2
structure InF (K : PySem.W.Frag) (C : Addr) : Prop where
  cl : Cls K C
  ha : PySem.W.findIn K (.ref C) "__class__" = some (some (.builtin "object.__class__"))
  hn : PySem.W.specialIn K (.builtin "object.__class__") "__get__" = some (some (.builtin "getset_descriptor.__get__"))
  htk : PySem.W.takesIn K (.builtin "object.__class__") = some true
  hm : PySem.W.mroIn K C (.type "object") = some true
def infB (c : Str) : Ft := .any fun K => (faB (.cls c)).ok K && (PySem.W.findIn K (.ref (He.ga K c)) "__class__" == some (some (.builtin "object.__class__"))) && (PySem.W.specialIn K (.builtin "object.__class__") "__get__" == some (some (.builtin "getset_descriptor.__get__"))) && (PySem.W.takesIn K (.builtin "object.__class__") == some true) && (PySem.W.mroIn K (He.ga K c) (.type "object") == some true)
theorem inf_f {K : PySem.W.Frag} {c : Str} (h : (infB c).ok K = true) : InF K (He.ga K c) := by
  have h0 : ((faB (.cls c)).ok K && (PySem.W.findIn K (.ref (He.ga K c)) "__class__" == some (some (.builtin "object.__class__"))) && (PySem.W.specialIn K (.builtin "object.__class__") "__get__" == some (some (.builtin "getset_descriptor.__get__"))) && (PySem.W.takesIn K (.builtin "object.__class__") == some true) && (PySem.W.mroIn K (He.ga K c) (.type "object") == some true)) = true := h
  obtain ⟨h0, h5⟩ := He.ba h0
  obtain ⟨h0, h4⟩ := He.ba h0
  obtain ⟨h0, h3⟩ := He.ba h0
  obtain ⟨h1, h2⟩ := He.ba h0
  exact ⟨cls_f h1, beq_iff_eq.mp h2, beq_iff_eq.mp h3, beq_iff_eq.mp h4, beq_iff_eq.mp h5⟩
def blt : List String := ["NoneType", "bool", "int", "str", "tuple", "list", "dict"]
section
variable {K : PySem.W.Frag} {L : Addr → Prop} {io : List Addr} {H : Hp} {S : Sto}
/-- the type of an instance, a handle or one in a slot -/
theorem insOf_ty (s : SR K L io H S) {v : V} {d : Dv} {c : Str} {fs : List (Str × Dv)} (r : VX K L io H v d) (e : insOf S d = some (c, fs)) : ∃ p dx vs, v = .ref p ∧ H p = some (.ins (He.ga K c) dx vs) := by
  rcases r with r | ⟨p, o, rfl, rfl, np, ob⟩
  · obtain ⟨p, dx, vs, h1, h2, _⟩ := insOf_ok s r e
    exact ⟨p, dx, vs, h1, h2⟩
  · cases o with
    | ins c' fs' => cases e; obtain ⟨dx, vs, h1, _⟩ := ob; exact ⟨p, dx, vs, rfl, h1⟩
    | _ => cases e
end
def rgtOk (S : Sto) (c : Str) (b : Dv) : Bool := match insOf S b with
  | some (c', _) => decide (c' = c)
  | none => (tyD S b).isSome
def blR (neg : Bool) : Res Dv → Res Dv
  | .ok (.bl r) S' => .ok (.bl (if neg then !r else r)) S'
  | _ => .no
def kEqO (neg : Bool) (c : Str) (g : DF) (a b : Dv) (S : Sto) : Res Dv := match insOf S a with
  | some (c', _) => if c' = c ∧ rgtOk S c b = true then blR neg (g S [a, b]) else .no
  | none => .no
def eEqO (neg : Bool) (c : Str) (g : DF) (f1 f2 : DE) : DE := fun e S => bnd (f1 e S) fun a S1 => bnd (f2 e S1) fun b S2 => kEqO neg c g a b S2
end DL
namespace DL
open PySem L2
def kLIx (fa : DE) (e : Env) (d : Dv) (S : Sto) : Res Dv := match d with
  | .lst l => bnd (fa e S) (tixE l)
  | _ => .no
def eLIx (f fa : DE) : DE := fun e S => bnd (f e S) (kLIx fa e)
section
variable (S : Sto) (e : Env) (d : Dv) (l l' : List Dv) (f f1 f2 fa : DE) (c : Str) (g : DF) (b neg : Bool)
@[simp] theorem ev_lix : eLIx f fa e S = bnd (f e S) (kLIx fa e) := rfl
@[simp] theorem ev_klix : kLIx fa e (.lst l) S = bnd (fa e S) (tixE l) := rfl
def kEO1 (neg : Bool) (c : Str) (g : DF) (f2 : DE) (e : Env) (a : Dv) (S : Sto) : Res Dv := bnd (f2 e S) fun b S2 => kEqO neg c g a b S2
@[simp] theorem ev_eqO : eEqO neg c g f1 f2 e S = bnd (f1 e S) (kEO1 neg c g f2 e) := rfl
@[simp] theorem ev_kEO1 : kEO1 neg c g f2 e d S = bnd (f2 e S) (kEqO neg c g d) := rfl
@[simp] theorem blR_ok : blR neg (.ok (.bl b) S) = .ok (.bl (if neg then !b else b)) S := rfl
end
end DL
namespace DL
open PySem L2
end DL
namespace DL
open PySem PySem.Spec PyProof.Rows L2
def oexOk (K : PySem.W.Frag) (C : Addr) : Bool := match K.lookup C with
  | some ⟨.type "type", _, .cls cd, sl⟩ => (match cd.mro, sl.toList with
    | .ref C' :: bm, [_, _, _, _, some (.builtin n), _] => C' == C && n == "ValueError.__new__" && !cd.hasDel && cd.hasDict && PySem.HandSPX.refsVE bm
    | _, _ => false)
  | _ => false
theorem oexOk_of {K : PySem.W.Frag} {C : Addr} (q : oexOk K C = true) : ∃ nm q N bs bm sn sub ab col dd k0 k1 k2 k3 k5, K.lookup C = some (excClassObj nm q C N bs bm true sn sub ab col dd k0 k1 k2 k3 k5 "ValueError.__new__") ∧ PySem.HandSPX.refsVE bm = true := by
  unfold oexOk at q
  split at q
  · rename_i dd cd sl ho
    split at q
    · rename_i C' bm k0 k1 k2 k3 n k5 hm hs
      simp only [Bool.and_eq_true, beq_iff_eq, Bool.not_eq_true'] at q
      obtain ⟨⟨⟨⟨rfl, rfl⟩, hdel⟩, hdc⟩, ht⟩ := q
      obtain ⟨nm, bs, mro, ns, qn, hd, sn, sub, ab, col, del⟩ := cd
      dsimp only at hm hdel hdc
      subst hm hdel hdc
      have hsl : sl = #[k0, k1, k2, k3, some (.builtin "ValueError.__new__"), k5] := by
        obtain ⟨l⟩ := sl
        simp only at hs
        rw [hs]
      subst hsl
      exact ⟨nm, qn, ns, bs, bm, sn, sub, ab, col, dd, k0, k1, k2, k3, k5, ho, ht⟩
    · cases q
  · cases q
/-- the facts of the class c: made, its fields stored and read, asked by isinstance -/
structure XcF (K : PySem.W.Frag) (C : Addr) (f : Addr) (ns : List Str) : Prop where
  o : OexC K C
  i : PySem.W.findIn K (.ref C) "__init__" = some (some (.ref f))
  t : PySem.W.typeIn K (.ref f) = some (.type "function")
  x : XfC K C
  no : ∀ n ∈ ns, PySem.W.findIn K (.ref C) n = some none
  cl : (PySem.W.clsIn K C).isSome = true
  ha : PySem.W.findIn K (.ref C) "__class__" = some (some (.builtin "object.__class__"))
  hn : PySem.W.specialIn K (.builtin "object.__class__") "__get__" = some (some (.builtin "getset_descriptor.__get__"))
  ht : PySem.W.takesIn K (.builtin "object.__class__") = some true
  hm : PySem.W.mroIn K C (.type "object") = some true
def xcOk (K : PySem.W.Frag) (C f : Addr) (ns : List Str) : Bool := oexOk K C && (PySem.W.findIn K (.ref C) "__setattr__" == some (some (.builtin "object.__setattr__"))) && (PySem.W.subIn K (.ref C) (.type "BaseException") == some true) && (PySem.W.typeIn K (.ref C) == some (.type "type")) && PySem.W.keepIn K (.ref C) &&
  (PySem.W.findIn K (.ref C) "__init__" == some (some (.ref f))) && (PySem.W.typeIn K (.ref f) == some (.type "function")) && xfB K C && (ns.all fun n => PySem.W.findIn K (.ref C) n == some none) && (PySem.W.clsIn K C).isSome &&
  (PySem.W.findIn K (.ref C) "__class__" == some (some (.builtin "object.__class__"))) && (PySem.W.specialIn K (.builtin "object.__class__") "__get__" == some (some (.builtin "getset_descriptor.__get__"))) && (PySem.W.takesIn K (.builtin "object.__class__") == some true) && (PySem.W.mroIn K C (.type "object") == some true)
theorem xcOk_of {K : PySem.W.Frag} {C f : Addr} {ns : List Str} (h : xcOk K C f ns = true) : XcF K C f ns := by
  unfold xcOk at h
  obtain ⟨h, h14⟩ := He.ba h
  obtain ⟨h, h13⟩ := He.ba h
  obtain ⟨h, h12⟩ := He.ba h
  obtain ⟨h, h11⟩ := He.ba h
  obtain ⟨h, h10⟩ := He.ba h
  obtain ⟨h, h9⟩ := He.ba h
  obtain ⟨h, h8⟩ := He.ba h
  obtain ⟨h, h7⟩ := He.ba h
  obtain ⟨h, h6⟩ := He.ba h
  obtain ⟨h, h5⟩ := He.ba h
  obtain ⟨h, h4⟩ := He.ba h
  obtain ⟨h, h3⟩ := He.ba h
  obtain ⟨h1, h2⟩ := He.ba h
  exact ⟨⟨oexOk_of h1, beq_iff_eq.mp h2, beq_iff_eq.mp h3, beq_iff_eq.mp h4, h5⟩, beq_iff_eq.mp h6, beq_iff_eq.mp h7, xfB_ok h8, fun n hn => beq_iff_eq.mp (List.all_eq_true.mp h9 n hn), h10, beq_iff_eq.mp h11, beq_iff_eq.mp h12, beq_iff_eq.mp h13, beq_iff_eq.mp h14⟩
def xcB (c : Str) (ns : List Str) : Ft := .any fun K => xcOk K (He.ga K c) (He.ma K (He.ga K c) "__init__") ns
theorem xc_f {K : PySem.W.Frag} {c : Str} {ns : List Str} (h : (xcB c ns).ok K = true) : XcF K (He.ga K c) (He.ma K (He.ga K c) "__init__") ns := xcOk_of h
/-- the base class, whose __init__ is ValueError's -/
structure FeF (K : PySem.W.Frag) (C : Addr) : Prop where
  r : ClX.CRead K C (.type "type")
  i : PySem.W.findCls K (.ref C) (.type "type") "__init__" = some (.val (.builtin "ValueError.__init__"))
def veI (r : Option PySem.W.CFound) : Bool := match r with
  | some (.val (.builtin n)) => n == "ValueError.__init__"
  | _ => false
theorem veI_of {r : Option PySem.W.CFound} (h : veI r = true) : r = some (.val (.builtin "ValueError.__init__")) := by
  unfold veI at h
  split at h
  · rw [beq_iff_eq.mp h]
  · cases h
def feB (c : Str) : Ft := .any fun K => (readB c).ok K && veI (PySem.W.findCls K (.ref (He.ga K c)) (.type "type") "__init__")
theorem fe_f {K : PySem.W.Frag} {c : Str} (h : (feB c).ok K = true) : FeF K (He.ga K c) := by
  obtain ⟨h1, h2⟩ := He.ba (show ((readB c).ok K && veI (PySem.W.findCls K (.ref (He.ga K c)) (.type "type") "__init__")) = true from h)
  exact ⟨read_f h1, veI_of h2⟩
section
variable {X : Cx} {e : Expr} {es : List Expr} {ta : TA} {p1 p2 pos : Pos} {b : Str} {B : Addr}
theorem pe_feinit {pl : Sem Bool} (hg : Gl X b) (hm : X.mg b = some (.ref B)) (T : FeF X.K B) (ha : PA X (e :: es) ta) (hdb : (b == ("__debug__" : Str)) = false := by decide)
    (hc : eval (.Call (.Attribute (.Name b p1) "__init__" p2) (e :: es) [] pos) X.env = (do
      let ov ← eval (.Name b p1) X.env
      standAt p2.atName
      let (f, first) ← holding [ov] (getMethod ov "__init__" pl)
      callWith pos f first (backTo pos (starEach (e :: es) X.env)) (backToKw pos (keywordEach [] X.env))) := by rfl)
    (he : starEach (e :: es) X.env = (false, eval e X.env) :: starEach es X.env := by rfl) (hpl : (backTo pos (starEach es X.env)).any (·.1) = false := by rfl) :
    PE X (.Call (.Attribute (.Name b p1) "__init__" p2) (e :: es) [] pos) (tVeI X.K ta) := by
  refine ⟨fun pins s σ H Q I h => ?_⟩
  refine PySem.W.methodCall_KW (pl := pl) (ld_glob I hg hm ?_ hdb) hc
  refine PySem.W.method_cls I.kIn T.r.ga (PySem.W.cls_value I.kIn T.r.rd T.i (by decide +kernel) ?_)
  show wpAny _ _ (callWith pos (Value.builtin "ValueError.__init__") [] (backTo pos (starEach (e :: es) X.env)) []) _ _ _
  refine PyProof.Rows.callWith_method1 (thn (ha.run pos pins _ σ H _ (I.tok _) h) fun us s1 ⟨vs, H1, I1, r1, a, C, ws, ev, hl, T, ea, q⟩ => ?_) he hpl
  subst ev
  cases r1 with
  | @cons _ u0 _ ur ra rw' =>
    obtain rfl : u0 = Value.ref a := ra
    have hlen : ur.length ≤ sizeLine := by
      rw [← Paired.length rw', sizeLine_eq]
      omega
    exact oinit_ok T I1 ea hlen fun s' J => ⟨.non, H1, J, rfl, q⟩
end
/-- what __init__ does: the fields stand in the exception's new dict -/
def XiT (K : PySem.W.Frag) (ns : List Str) : TS := fun D σ H => ∃ (a C : Addr) (ws : List V), σ[0]? = some (some (.ref a)) ∧ ws.length = ns.length ∧ (∀ (i : Nat) (w : V), ws[i]? = some w → σ[i + 1]? = some (some w)) ∧ OexC K C ∧ (∀ n ∈ ns, PySem.W.findIn K (.ref C) n = some none) ∧ H a = some (exo a C none) ∧
  ∀ dx H2, H dx = none → dx ≠ a → H2 a = some (exo a C (some dx)) → H2 dx = some (exd dx (ns.zip ws).reverse) → (∀ b, b ≠ a → b ≠ dx → H2 b = H b) → D.nx σ H2
section
variable {X : Cx} {p1 p2 p3 p4 p5 p6 p7 p8 p9 p10 p11 p12 p13 p14 : Pos} {b se x1 x2 f1 f2 tx : Str} {B : Addr} {j : Nat}
theorem pss_xi1 {pl : Sem Bool} (hg : Gl X b) (hm : X.mg b = some (.ref B)) (T : FeF X.K B) (h0 : X.N[0]? = some se := by rfl) (h1 : X.N[1]? = some x1 := by rfl)
    (v0 : Vis X.env.scope se := by first | exact Or.inl rfl | exact Or.inr (Or.inl rfl) | exact Or.inr (Or.inr rfl)) (v1 : Vis X.env.scope x1 := by first | exact Or.inl rfl | exact Or.inr (Or.inl rfl) | exact Or.inr (Or.inr rfl))
    (d0 : (se == ("__debug__" : Str)) = false := by decide) (d1 : (x1 == ("__debug__" : Str)) = false := by decide) (c0 : (se == ("__classdict__" : Str)) = false := by decide) (c1 : (x1 == ("__classdict__" : Str)) = false := by decide) (hdb : (b == ("__debug__" : Str)) = false := by decide)
    (hc : eval (.Call (.Attribute (.Name b p1) "__init__" p2) [.Name se p3, .Constant (.str tx) j p4] [] p5) X.env = (do
      let ov ← eval (.Name b p1) X.env
      standAt p2.atName
      let (f, first) ← holding [ov] (getMethod ov "__init__" pl)
      callWith p5 f first (backTo p5 (starEach [.Name se p3, .Constant (.str tx) j p4] X.env)) (backToKw p5 (keywordEach [] X.env))) := by rfl)
    (hs1 : swapsWith (.Call (.Attribute (.Name b p1) "__init__" p2) [.Name se p3, .Constant (.str tx) j p4] [] p5) none p6.line X.env = pure false := by rfl) (hs2 : swapsWith (.Name x1 p9) (some (.Attribute (.Name se p7) f1 p8)) p10.line X.env = pure false := by rfl) :
    PSs X [.Expr (.Call (.Attribute (.Name b p1) "__init__" p2) [.Name se p3, .Constant (.str tx) j p4] [] p5) p6, .Assign [.Attribute (.Name se p7) f1 p8] (.Name x1 p9) p10] (XiT X.K [f1]) := by
  refine pss_imp (pss_cons (ps_expr (pe_feinit (pl := pl) hg hm T (pa_cons (pe_var h0 v0 d0 c0) (pa_cons pe_str pa_nil)) hdb hc) hs1) (pss_one (ps_ost (pe_var h0 v0 d0 c0) (pe_var h1 v1 d1 c1) hs2))) fun D σ H h => ?_
  obtain ⟨a, C, ws, e0, hl, hw, O, no, ea, q⟩ := h
  match ws, hl with
  | [w], _ =>
    have e1 := hw 0 w rfl
    refine ⟨.ref a, e0, a, C, [.str tx], rfl, Nat.le_of_ble_eq_true rfl, O, ea, ?_⟩
    refine ⟨w, e1, .ref a, e0, a, C, rfl, O, no f1 (List.mem_singleton.mpr rfl), .inl ⟨ea, fun dx hd hne => ?_⟩⟩
    exact q dx _ hd hne upd_same (by rw [upd_ne hne, upd_same]; rfl) fun b hb hbd => by rw [upd_ne hb, upd_ne hbd]
end
/-- what __init__ of an exception of the class at C promises -/
def spX (C : Addr) (ns : List Str) : Sp := fun vs H Q E => ∃ (a : Addr) (ws : List V), vs = .ref a :: ws ∧ ws.length = ns.length ∧ H a = some (exo a C none) ∧
  ∀ dx H2, H dx = none → dx ≠ a → H2 a = some (exo a C (some dx)) → H2 dx = some (exd dx (ns.zip ws).reverse) → (∀ b, b ≠ a → b ≠ dx → H2 b = H b) → Q .non H2
/-- the exception class c, its fields ns in the order of __init__'s parameters; g says whether there is room -/
def FX (P : Program) (w : World) (K : PySem.W.Frag) (mg : Str → Option Value) (base : Heap) (k : Nat) (c : Str) (ns : List Str) (g : DF) : Prop :=
  (∀ S l, g S l = .no) ∨ ∃ (fd : FuncData) (ps : List Str), FnG P w K mg base k (He.ma K (He.ga K c) "__init__") fd ps (spX (He.ga K c) ns) ∧ mg c = some (.ref (He.ga K c)) ∧ XcF K (He.ga K c) (He.ma K (He.ga K c) "__init__") ns ∧ Binds K fd ps []
def gX : DF := fun S _ => .ok .non S
theorem fx_no {P : Program} {w : World} {K : PySem.W.Frag} {mg : Str → Option Value} {base : Heap} {k : Nat} {c : Str} {ns : List Str} : FX P w K mg base k c ns gNo := .inl fun _ _ => rfl
theorem fx_mk {P : Program} {w : World} {K : PySem.W.Frag} {mg : Str → Option Value} {base : Heap} {k : Nat} {c qual : Str} {ns ps N : List Str} {st : Stmt} (F : ∃ fd, FunD K "__init__" qual (defArgs st) (defBody st) (defScope st) [] [] (He.ma K (He.ga K c) "__init__") fd)
    (hm : mg c = some (.ref (He.ga K c))) (T : XcF K (He.ga K c) (He.ma K (He.ga K c) "__init__") ns) (Sc : FnScope N ps (defScope st)) (hbi : BindN "__init__" qual st ps) (hl : ps.length = ns.length + 1)
    (hb : ∀ (cdv : Value) (A : Around) (up : List PySem.Env) (s : Shared) (H : Hp) (E : XK), PSs (cxOf (L2.CX P w) P w K mg base N qual (defScope st) (He.ma K (He.ga K c) "__init__") cdv A up s H E) (defBody st) (XiT K ns)) : FX P w K mg base (k + 2) c ns gX := by
  obtain ⟨fd, F⟩ := F
  refine .inr ⟨fd, ps, ?_, hm, T, F.bindsN hbi⟩
  obtain ⟨oc, od, dV, kV, doc, pm, an, cdv, ct, osl, rfl, lk, hcd, _, _⟩ := F.ex
  refine FnG.mono (j := 0 + 1) (fng_of lk hcd Sc (fun vs H Q E h => ?_) fun A outer s H vs Q E hr h => ⟨_, hb cdv A outer s H E, ?_⟩) (by omega)
  · obtain ⟨a, ws, rfl, h1, _⟩ := h
    rw [List.length_cons, h1, hl]
  · obtain ⟨a, ws, rfl, h1, ea, q⟩ := h
    refine ⟨a, He.ga K c, ws, rfl, h1, fun i w hw => ?_, T.o, T.no, ea, fun dx H2 k1 k2 k3 k4 k5 => q dx H2 k1 k2 k3 k4 k5⟩
    show ((V.ref a :: ws).map some ++ _)[i + 1]? = _
    rw [List.map_cons, List.cons_append, List.getElem?_cons_succ, List.getElem?_append_left (by rw [List.length_map]; exact (List.getElem?_eq_some_iff.mp hw).1), List.getElem?_map, hw]
    rfl
section
variable {X : Cx} {e : Expr} {es : List Expr} {ta : TA} {p pos : Pos}
/-- C(e, ..), as pmk_oex, its promise at calls without guards -/
theorem pmk_oexG {x : Str} {C fI : Addr} {k : Nat} {fd : FuncData} {ps : List Str} {sp : Sp} (T : OexC X.K C) (iC : PySem.W.findIn X.K (.ref C) "__init__" = some (some (.ref fI))) (tI : PySem.W.typeIn X.K (.ref fI) = some (.type "function"))
    (F1 : FnG X.prog X.w X.K X.mg X.base k fI fd ps sp) (hr : RoomG (k + 1) X.A) (hb : Binds X.K fd ps []) (hg : Gl X x) (hm : X.mg x = some (.ref C)) (ha : PA X (e :: es) ta)
    (hdb : (x == ("__debug__" : Str)) = false := by decide) (he : starEach (e :: es) X.env = (false, eval e X.env) :: starEach es X.env := by rfl) (hpl : (backTo pos (starEach es X.env)).any (·.1) = false := by rfl) :
    PMk X (.Call (.Name x p) (e :: es) [] pos) (tMkO C sp [] ta) := by
  intro pins s σ H Q I h
  obtain ⟨nm, q, N, bs, bm, sn, sub, ab, col, dd, k0, k1, k2, k3, k5, hC, hbm⟩ := T.cls
  refine wpAny_Call_Name_kw (ld_glob I hg hm ?_ hdb)
  refine PySem.W.callWith_K (h₀ := X.base) I.ok.mod.kin T.kC (thn (ha.run pos pins s σ H _ I h) fun us s1 ⟨vs, H1, I1, r1, hz, q1⟩ => ⟨I1.kIn, ?_⟩) he hpl
  show wpAny _ _ (call (.ref C) us) _ _ _
  obtain ⟨hp, g, dr, tk, os⟩ := s1
  have hsz : hp.objs.size ≤ hp.objs.size + 1 := Nat.le_succ _
  have hn : H1 (hp.objs.size + 1) = none := I1.hok.fresh hsz
  have hq := q1 (hp.objs.size + 1) hn
  have kk : ∀ b o, hp.get? b = some o → ((hp.push (PySem.W.kdv_tup us)).push (PySem.HandSPX.excO C hp.objs.size)).get? b = some o := fun b o e => Heap.get?_push_of_some _ (Heap.get?_push_of_some _ e)
  have hget : ((hp.push (PySem.W.kdv_tup us)).push (PySem.HandSPX.excO C hp.objs.size)).get? (hp.objs.size + 1) = some (PySem.HandSPX.excO C hp.objs.size) := by heap_get
  have I2 : Inv X pins σ (upd H1 (hp.objs.size + 1) (exo (hp.objs.size + 1) C none)) ⟨(hp.push (PySem.W.kdv_tup us)).push (PySem.HandSPX.excO C hp.objs.size), g, dr, tk, os⟩ :=
    I1.laid (t' := tk) (a := hp.objs.size + 1) (o := exo (hp.objs.size + 1) C none) (h' := (hp.push (PySem.W.kdv_tup us)).push (PySem.HandSPX.excO C hp.objs.size)) kk hsz (exo_ok hget)
  have r2 : Vals (V.ref (hp.objs.size + 1) :: (vs ++ [])) (Value.ref (hp.objs.size + 1) :: (us ++ [])) := .cons rfl (r1.append .nil)
  have hl : (Value.ref (hp.objs.size + 1) :: us ++ []).length = ps.length := by
    have e := r2.length
    rw [F1.len _ _ _ _ hq] at e
    exact e.symm
  have hus : us.length ≤ sizeLine := by
    rw [← Paired.length r1, sizeLine_eq]
    omega
  refine wpAny_call (PySem.HandSPX.call_own F.excBase_ValueError (fun Y => PySem.HandSPX.refsVE_contains Y bm hbm) (I1.kIn _ _ hC) (PySem.W.looks_findIn I1.kIn iC) (fun self => PySem.W.bind_fn I1.kIn self tI) hus
    (codeAny_mono (F1.run _ X.stack _ _ ⟨Value.ref (hp.objs.size + 1) :: us, []⟩ (Value.ref (hp.objs.size + 1) :: (us ++ [])) _ _ (fun _ _ _ => False) (hr.make C us []) (I2.env0.make C us []) (show BindsTo _ fd _ (ps.zip (Value.ref (hp.objs.size + 1) :: (us ++ []))) from hb _ (Value.ref (hp.objs.size + 1) :: us) I2.kIn hl) r2 hq) fun r s' hq' => ?_))
  cases r with
  | error er => exact (takesW0 (X := X)) er s' (XE.of_call I2 (fun _ _ _ z => z) hq')
  | ok fl =>
    cases fl with
    | ret u =>
      obtain ⟨v, H2, os2, bare2, un2, hok2, rv, ev, d, fs, ea, ed, hd1, q2⟩ := hq'
      subst ev
      obtain ⟨h2, g2, d2, t2, os'⟩ := s'
      exact ⟨rv, mk_end (raises_own T.exC T.tyC) I1 hsz kk un2 hok2 os2 bare2 ea ed hd1 q2⟩
    | next => exact False.elim hq'
    | brk => exact False.elim hq'
    | cont => exact False.elim hq'
end
def kRaise (g : DF) (c : Str) (ns : List Str) (e : Env) (l : List Dv) (S : Sto) : Out := match g S l with
  | .ok _ _ => if l.length = ns.length then .ex c (ns.zip l).reverse e S else .no
  | _ => .no
def sRaise (g : DF) (c : Str) (ns : List Str) (fa : DA) : DS := fun e S => match fa e S with
  | .ok l S1 => kRaise g c ns e l S1
  | _ => .no
theorem pairR_zip {K : PySem.W.Frag} {L : Addr → Prop} {io : List Addr} {H : Hp} : ∀ (ns : List Str) {vs : List V} {l : List Dv}, VRs K L io H vs l → PairR (VR K L io H) (ns.zip vs) (ns.zip l)
  | [], _, _, _ => .nil
  | _ :: _, _, _, .nil => .nil
  | n :: ns, _, _, .cons r t => .cons ⟨rfl, r⟩ (pairR_zip ns t)
theorem Paired.snoc {α β : Type} {R : α → β → Prop} {x : α} {y : β} (h : R x y) : ∀ {l : List α} {m : List β}, Paired R l m → Paired R (l ++ [x]) (m ++ [y])
  | _, _, .nil => .cons h .nil
  | _, _, .cons r t => .cons r (Paired.snoc h t)
theorem Paired.rev {α β : Type} {R : α → β → Prop} : ∀ {l : List α} {m : List β}, Paired R l m → Paired R l.reverse m.reverse
  | _, _, .nil => .nil
  | _, _, .cons r t => by
    rw [List.reverse_cons, List.reverse_cons]
    exact Paired.snoc r (Paired.rev t)
section
variable {X : Cx} {W : WX} {k : Nat} {c : Str} {ns : List Str} {g : DF} {e : Expr} {es : List Expr} {fa : DA} {p pos pos' : Pos}
theorem qs_raise (F : FX X.prog X.w X.K X.mg X.base k c ns g) (hr : RoomG (k + 1) X.A) (tk : Takes X W) (hcalm : X.calm = true) (hns : ns.length ≤ 1000) (ha : QA X W (e :: es) fa) (hg : Gl X c := by rfl)
    (hdb : (c == ("__debug__" : Str)) = false := by decide) (he : starEach (e :: es) X.env = (false, eval e X.env) :: starEach es X.env := by rfl) (hpl : (backTo pos (starEach es X.env)).any (·.1) = false := by rfl) :
    QS X W (.Raise (some (.Call (.Name c p) (e :: es) [] pos)) none pos') (sRaise g c ns fa) := by
  rcases F with F | ⟨fd, ps, F, hm, T, hb⟩
  · refine ⟨fun pins s σ H D I h => ?_⟩
    obtain ⟨L0, io0, H0, L, io, ev, S, fr, h⟩ := h
    exfalso
    unfold sRaise at h
    cases hf : fa ev S with
    | ok l S' => rw [hf] at h; simp only [kRaise, F] at h; exact h
    | ex c' fs S' => rw [hf] at h; exact h
    | no => rw [hf] at h; exact h
  · refine ps_imp (ps_raise hcalm tk (pmk_oexG T.o T.i T.t F hr hb hg hm ha hdb he hpl)) fun D σ H h => ?_
    have h2 : rds X.K W (sBind fa (kRaise g c ns)) D σ H := by
      obtain ⟨L0, io0, H0, L, io, ev, S, fr, h⟩ := h
      refine ⟨L0, io0, H0, L, io, ev, S, fr, ?_⟩
      unfold sRaise at h
      unfold sBind
      cases hf : fa ev S with
      | ok l S' => rw [hf] at h; exact h
      | _ => rw [hf] at h; exact h.elim
    refine rds_bind (R := VRs X.K) (k := kRaise g c ns) h2 fun L0 io0 H0 L io H1 ev S l vs fr rv q => ?_
    unfold kRaise at q
    cases hgg : g S l with
    | ok d S' =>
      rw [hgg] at q
      simp only at q
      split at q
      · rename_i hlen
        have hvl : vs.length = ns.length := by rw [rv.len, hlen]
        refine ⟨by omega, fun a hna => ?_⟩
        rw [List.append_nil]
        refine ⟨a, vs, rfl, hvl, upd_same, fun dx H2 k1 k2 k3 k4 k5 => ⟨rfl, dx, (ns.zip vs).reverse, k3, k4, ?_, ?_⟩⟩
        · rw [upd_ne k2] at k1; exact k1
        · have hd : H1 dx = none := by rw [upd_ne k2] at k1; exact k1
          have eH : upd (del H2 a) dx (.xd (ns.zip vs).reverse) = upd H1 dx (.xd (ns.zip vs).reverse) := by
            funext b
            by_cases hb1 : b = dx
            · rw [hb1, upd_same, upd_same]
            · rw [upd_ne hb1, upd_ne hb1]
              by_cases hb2 : b = a
              · rw [hb2, del_same, hna]
              · rw [del_ne hb2, k5 b hb2 hb1, upd_ne hb2]
          rw [eH]
          have s := Stp.alloc (L := L) (io := io) (o := HO.xd (ns.zip vs).reverse) hd
          exact q (some dx) σ _ L io (s.stw fr.st.sub) (fr.step s (fr.st.alloc hd)) ⟨dx, _, rfl, fr.st.fresh hd, upd_same, Paired.rev ((pairR_zip ns rv).mono fun v d r => r.step s fr.st.sub)⟩
      · exact q.elim
    | _ => rw [hgg] at q; exact q.elim
end
end DL
namespace DL
open PySem PySem.Spec PyProof.Rows L2
abbrev HR (α : Type) := Str → List (Str × Dv) → Env → Sto → Res α
theorem ExR.step {K : PySem.W.Frag} {L L' : Addr → Prop} {io io' : List Addr} {H H' : Hp} {x : Option Addr} {fs : List (Str × Dv)} (h : ExR K L io H x fs) (s : Stp L io H L' io' H') (sub : ∀ x ∈ io, L x) : ExR K L' io' H' x fs := by
  obtain ⟨a, vs, h1, h2, h3, h4⟩ := h
  obtain ⟨k1, k2⟩ := (s.on sub).2 a _ h3 h2
  exact ⟨a, vs, h1, k2, k1, h4.mono fun v d r => r.step s sub⟩
def RdH {α β : Type} (K : PySem.W.Frag) (R : (Addr → Prop) → List Addr → Hp → β → α → Prop) (i : Nat) (a : Addr) (cls : Value) (d : Option Addr) (h : HR α) : L2.St → Hp → (β → Hp → Prop) → Prop := fun σ H Q =>
  ∃ (c : Str) (fs : List (Str × Dv)) (L0 : Addr → Prop) (io0 : List Addr) (H0 : Hp) (L : Addr → Prop) (io : List Addr) (e : Env) (S : Sto), cls = .ref (He.ga K c) ∧ FR K L0 io0 H0 L io H σ e S ∧ σ[i]? = some (some (.ref a)) ∧ ExR K L io H d fs ∧ Fin K (fun _ _ _ _ => False) R σ L io H Q (h c fs e S)
theorem RdH.bind {α β α' β' : Type} {K : PySem.W.Frag} {R : (Addr → Prop) → List Addr → Hp → β → α → Prop} {R' : (Addr → Prop) → List Addr → Hp → β' → α' → Prop} {i : Nat} {a : Addr} {cls : Value} {d : Option Addr} {h : HR α} {k : Str → List (Str × Dv) → Env → α → Sto → Res α'} {σ : L2.St} {H : Hp} {Q : β' → Hp → Prop} {P : β → Hp → Prop}
    (q : RdH K R' i a cls d (fun c fs e S => bnd (h c fs e S) (k c fs e)) σ H Q)
    (n : ∀ (c : Str) (fs : List (Str × Dv)) (L0 : Addr → Prop) (io0 : List Addr) (H0 : Hp) (L : Addr → Prop) (io : List Addr) (H1 : Hp) (e : Env) (S : Sto) (x : α) (v : β), cls = .ref (He.ga K c) → FR K L0 io0 H0 L io H1 σ e S → σ[i]? = some (some (.ref a)) → ExR K L io H1 d fs → R L io H1 v x → Fin K (fun _ _ _ _ => False) R' σ L io H1 Q (k c fs e x S) → P v H1) : RdH K R i a cls d h σ H P := by
  obtain ⟨c, fs, L0, io0, H0, L, io, e, S, hc, fr, si, ex, q0⟩ := q
  have q : Fin K (fun _ _ _ _ => False) R' σ L io H Q (bnd (h c fs e S) (k c fs e)) := q0
  refine ⟨c, fs, L0, io0, H0, L, io, e, S, hc, fr, si, ex, ?_⟩
  cases hh : h c fs e S with
  | ok x S1 =>
    rw [hh] at q
    intro v H1 L1 io1 s1 sr1 r1
    exact n c fs L0 io0 H0 L1 io1 H1 e S1 x v hc (fr.step s1 sr1) si (ex.step s1 fr.st.sub) r1 (Fin.later q s1 fr.st.sub)
  | ex c' fs' S1 => rw [hh] at q; exact q
  | no => rw [hh] at q; exact q
section
variable {X : Cx} {i : Nat} {e a b c : Expr} {es : List Expr} {pos : Pos} {h h1 h2 : HR Dv} {ha : HR (List Dv)} {ht : HR Bool}
/-- the classes' facts -/
def XcT (K : PySem.W.Frag) (tab : List (Str × List Str)) : Prop := ∀ c ns, tab.lookup c = some ns → XcF K (He.ga K c) (He.ma K (He.ga K c) "__init__") ns
end
end DL
namespace DL
open PySem L2
theorem mem_lookupA {α : Type} {k : Str} {d : α} : ∀ {l : List (Str × α)}, l.lookup k = some d → (k, d) ∈ l
  | [], h => by simp at h
  | (k', d') :: l, h => by
    rw [List.lookup_cons] at h
    cases e : k == k' with
    | true =>
      rw [e] at h
      cases h
      rw [beq_iff_eq.mp e]
      exact List.mem_cons_self
    | false => rw [e] at h; exact List.mem_cons_of_mem _ (mem_lookupA h)
def xtB (tab : List (Str × List Str)) : Ft := .any fun K => tab.all fun q => (xcB q.1 q.2).ok K
theorem xt_f {K : PySem.W.Frag} {tab : List (Str × List Str)} (h : (xtB tab).ok K = true) : XcT K tab := fun c ns hl => xc_f (List.all_eq_true.mp (show (tab.all fun q => (xcB q.1 q.2).ok K) = true from h) (c, ns) (mem_lookupA hl))
section
variable (S S' : Sto) (e e' : Env) (d : Dv) (l : List Dv) (c f : Str) (fs : List (Str × Dv)) (ns : List Str) (fa : DA) (g : DF) (i : Nat) (b : Bool) (body : DS) (h : HR Dv) (sub : List (Str × Bool))
def kRs (g : DF) (c : Str) (ns : List Str) (e : Env) : Res (List Dv) → Out
  | .ok l S1 => kRaise g c ns e l S1
  | _ => .no
@[simp] theorem ev_raise : sRaise g c ns fa e S = kRs g c ns e (fa e S) := by unfold sRaise kRs; cases fa e S <;> rfl
@[simp] theorem kRs_ok : kRs g c ns e (.ok l S) = kRaise g c ns e l S := rfl
end
end DL
namespace DL
open PySem L2
def dinD (neg : Bool) (S : Sto) (k d : Dv) : Option (Dv × Sto) := (asD S d).bind fun l => (keyD k).map fun k' => (.bl (if neg then !(valD l k').isSome else (valD l k').isSome), S)
def rDIn (neg : Bool) : R2 := fun y x H Q => ∃ a o, x = .ref a ∧ DGet H a y o ∧ Q (.bl (if neg then !o.isSome else o.isSome)) H
theorem ops_din {K : PySem.W.Frag} {neg : Bool} : OpS K (rDIn neg) (dinD neg) := by
  intro L io H S x y a b d S' Q sr ra rb e q
  unfold dinD at e
  cases h1 : asD S b with
  | none => rw [h1] at e; cases e
  | some l =>
    rw [h1] at e
    simp only [Option.bind_some] at e
    cases h2 : keyD a with
    | none => rw [h2] at e; cases e
    | some k =>
      rw [h2] at e
      cases e
      obtain ⟨p, kvs, rfl, e1, e2⟩ := asD_x sr rb h1
      have hk := keyD_ok (ra.vr (by cases a <;> first | rfl | cases h2)) h2
      have hs : (valV kvs k).isSome = (valD l k).isSome := by
        cases h3 : valD l k with
        | none => rw [(e2.val k).2 h3]; rfl
        | some z => obtain ⟨v, h4, _⟩ := (e2.val k).1 z h3; rw [h4]; rfl
      refine ⟨p, valV kvs k, rfl, by rw [hk]; exact .inl ⟨kvs, k, e1, rfl, rfl⟩, ?_⟩
      rw [hs]
      exact q _ H L io (Stp.refl ..) sr (.bl _)
section
variable {X : Cx} {W : WX} {pos pos' : Pos} {o i a : Expr} {f f1 f2 fv fo fi : DE} {kk : Nat} {x : Str}
theorem qt_din (hr : Room kk X.A) (hi : QX X W i f1) (ho : QX X W o f2) (hm : behindInMarks .In o = false := by first | exact nobehind _ (by decide) (by decide) | rfl) : QT X W (.Compare i [.In] [o] pos) (tVal (eBin (dinD false) f1 f2)) :=
  pt_imp (pt_cmp (pc_din (hu_of hr) hi ho) hm) fun g H Q q => by
    have z := rd_tval q
    exact (show tTest (tOp (rDIn false) (Rdg X.K W (VX X.K) f1) (Rdg X.K W (VX X.K) f2)) g H Q from rd_bin ops_din z)
theorem qt_dni (hr : Room kk X.A) (hi : QX X W i f1) (ho : QX X W o f2) (hm : behindInMarks .NotIn o = false := by first | exact nobehind _ (by decide) (by decide) | rfl) : QT X W (.Compare i [.NotIn] [o] pos) (tVal (eBin (dinD true) f1 f2)) :=
  pt_imp (pt_cmp (pc_dnotin (hu_of hr) hi ho) hm) fun g H Q q => by
    have z := rd_tval q
    exact (show tTest (tOp (rDIn true) (Rdg X.K W (VX X.K) f1) (Rdg X.K W (VX X.K) f2)) g H Q from rd_bin ops_din z)
/-- d a handle -/
def dputH (S : Sto) (o i v : Dv) : Option Sto := match o with
  | .hdl k => (match S[k]? with
    | some (.dct l) => (keyD i).bind fun k' => if l.length < sizeLine then some (S.set k (.dct (putD l k' v))) else none
    | _ => none)
  | _ => none
def sDPutH (fo fi fv : DE) : DS := sBind fv fun e v S1 => sBind fo (fun e o S2 => sBind fi (fun e i S3 => match dputH S3 o i v with
  | some S4 => .nx e S4
  | none => .no) e S2) e S1
theorem qs_dputH (hr : Room kk X.A) (ho : QE X W o fo) (hi : QE X W i fi) (hv : QE X W a fv) (hs : swapsWith a (some (.Subscript o i pos')) pos.line X.env = pure false := by rfl) : QS X W (.Assign [.Subscript o i pos'] a pos) (sDPutH fo fi fv) := ps_imp (ps_dput (hu_of hr) ho hi hv hs) fun D g H h => by
  refine rds_bind (R := VR X.K) (k := fun e v S1 => sBind fo (fun e o S2 => sBind fi (fun e i S3 => match dputH S3 o i v with
    | some S4 => .nx e S4
    | none => .no) e S2) e S1) h fun L0 io0 H0 L io H1 e S v vv fr rv q => ?_
  refine outR.bind (R := VR X.K) (k := fun e o S2 => sBind fi (fun e i S3 => match dputH S3 o i v with
    | some S4 => .nx e S4
    | none => .no) e S2) fr q fun L2 io2 H2 S2 od ov s2 fr2 ro q2 => ?_
  refine outR.bind (R := VR X.K) (k := fun e i S3 => match dputH S3 od i v with
    | some S4 => .nx e S4
    | none => .no) fr2 q2 fun L3 io3 H3 S3 id iv s3 fr3 ri q3 => ?_
  have ro3 := ro.step s3 fr2.st.sub
  have rv3 := (rv.step s2 fr.st.sub).step s3 fr2.st.sub
  unfold dputH at q3
  cases od with
  | hdl k =>
    cases ro3 with
    | hdl hk =>
      rename_i p
      cases hS : S3[k]? with
      | none => simp only [hS] at q3; exact q3.elim
      | some ob =>
        cases ob with
        | dct l =>
          simp only [hS] at q3
          cases h2 : keyD id with
          | none => rw [h2] at q3; exact q3.elim
          | some k' =>
            rw [h2] at q3
            simp only [Option.bind_some] at q3
            by_cases hl : l.length < sizeLine
            · rw [if_pos hl] at q3
              simp only at q3
              obtain ⟨kvs, e1, r1⟩ := fr3.st.obj k p _ hk hS
              have ma : p ∈ io3 := List.mem_of_getElem? hk
              refine ⟨p, upd H3 p (.dK (putK kvs k' vv)), rfl, ?_, ?_⟩
              · rw [keyD_ok ri h2]
                exact DPut.k e1 (by rw [PairR.len r1]; exact hl)
              · have s4 : Stp L3 io3 H3 L3 io3 (upd H3 p (.dK (putK kvs k' vv))) := Stp.mutH ma
                exact q3 g _ L3 io3 (s4.stw fr3.st.sub) (fr3.step s4 (fr3.st.setH hk ⟨_, upd_same, (PairR.put r1 rv3).mono fun v d r => r.mut (fr3.st.sub p ma)⟩))
            · rw [if_neg hl] at q3; exact q3.elim
        | _ => simp only [hS] at q3; exact q3.elim
  | _ => exact q3.elim
def dcopK (l : List Dv) (S : Sto) : Res (List (Key × Dv)) := match l with
  | [d] => (match asD S d with
    | some m => .ok m S
    | none => .no)
  | _ => .no
def dCopy (fa : DA) : DD := fun e S => bnd (fa e S) dcopK
theorem qd_copy {p : Pos} {fa : DA} (hm : X.mg "dict" = none) (ha : QXs X W [a] fa) (hg : Gl X "dict" := by rfl) (he : starEach [a] X.env = (false, eval a X.env) :: starEach [] X.env := by rfl) : QD X W (.Call (.Name "dict" p) [a] [] pos) (dCopy fa) :=
  pe_imp (pe_callTy call_dictD hg hm (by decide +kernel) ha (by decide) (by decide) he (by rfl)) fun g H Q q => by
  obtain ⟨L0, io0, H0, L, io, e, S, fr, q⟩ := q
  refine FinD.bind (R := VXs X.K) (k := dcopK) fr q fun L1 io1 H1 S1 l vs s1 fr1 rvs q => ?_
  unfold dcopK at q
  split at q
  · rename_i d
    cases h : asD S1 d with
    | none => rw [h] at q; exact q.elim
    | some m =>
      rw [h] at q
      cases rvs with
      | cons r t =>
        cases t
        obtain ⟨a, kvs, rfl, hs, t⟩ := asD_x fr1.st r h
        refine ⟨a, kvs, rfl, hs, fun p hp => ?_⟩
        exact q _ _ (Ly L1 p) io1 (Stp.newV hp) (fr1.st.newV hp) ⟨p, _, rfl, hp, .inr rfl, fun z => fr1.st.dom p (fr1.st.sub p z) hp, upd_same, t.mono fun v d r => r.step (Stp.newV hp) fr1.st.sub⟩
  · exact q.elim
end
end DL
namespace DL
open PySem PySem.Spec PyProof.Rows L2
def kCallP (c : Str) (g : DF) (d : Dv) (as : List Dv) (S : Sto) : Res Dv := match insOf S d with
  | some (c', _) => if c' = c then g S (d :: as) else .no
  | none => .no
def kCallO (c : Str) (g : DF) (fa : DA) (e : Env) (d : Dv) (S : Sto) : Res Dv := match insOf S d with
  | some (c', _) => if c' = c then bnd (fa e S) (kCallP c g d) else .no
  | none => .no
def eCallO (c : Str) (g : DF) (i : Nat) (fa : DA) : DE := fun e S => bnd (eVar i e S) (kCallO c g fa e)
def augF (op : Dv → Dv → Option Dv) (c f : Str) (k : Nat) (x : Dv) (e : Env) (y : Dv) (S : Sto) : Out := match op x y with
  | some z => (match setF c f S (.hdl k) z with
    | some S2 => .nx e S2
    | none => .no)
  | none => .no
def kAugF (op : Dv → Dv → Option Dv) (c f : Str) (fv : DE) (e : Env) (o : Dv) (S : Sto) : Out := match o with
  | .hdl k => (match S[k]? with
    | some (.ins c' fs) => if c' = c then (match fs.lookup f with
      | some x => sBind fv (augF op c f k x) e S
      | none => .no) else .no
    | _ => .no)
  | _ => .no
def sAugF (op : Dv → Dv → Option Dv) (c f : Str) (fo fv : DE) : DS := sBind fo (kAugF op c f fv)
section
variable (S S' : Sto) (e e' : Env) (d d1 d2 : Dv) (l : List Dv) (m : List (Key × Dv)) (c f : Str) (fs : List (Str × Dv)) (fa : DA) (g : DF) (i k : Nat) (fv fi fo f1 : DE)
@[simp] theorem ev_callO : eCallO c g i fa e S = bnd (kVar S (e[i]?)) (kCallO c g fa e) := rfl
@[simp] theorem ev_augF (op : Dv → Dv → Option Dv) : sAugF op c f fo fv e S = kS (kAugF op c f fv) e (fo e S) := ev_sbind ..
@[simp] theorem ev_dCopy : dCopy fa e S = bnd (fa e S) dcopK := rfl
@[simp] theorem dcopK_dic : dcopK [.dic m] S = .ok m S := rfl
end
end DL
namespace DL
open PySem L2
def rngK1 (d : Dv) (S : Sto) : Res (List Dv) := match d with
  | .int n => if 0 ≤ n ∧ n ≤ 16777216 then .ok (rngD 0 n.toNat) S else .no
  | _ => .no
def fRng (f : DE) : DL := fun e S => bnd (f e S) rngK1
def kRevL (d : Dv) (S : Sto) : Res (List Dv) := match asL S d with
  | some l => .ok l.reverse S
  | none => .no
def fRevL (f : DE) : DL := fun e S => bnd (f e S) kRevL
def kRepL (a : List Dv) (d : Dv) (S : Sto) : Res (List Dv) := match d with
  | .int k => if -(2 ^ 63) ≤ k ∧ k < 2 ^ 63 ∧ a.length * k.toNat ≤ sizeLine then .ok (List.replicate k.toNat a).flatten S else .no
  | _ => .no
def kRepA (f2 : DE) (e : Env) (d : Dv) (S : Sto) : Res (List Dv) := match d with
  | .lst l => bnd (f2 e S) (kRepL l)
  | _ => .no
def fRep (f1 f2 : DE) : DL := fun e S => bnd (f1 e S) (kRepA f2 e)
section
variable (S : Sto) (e : Env) (l : List Dv) (f f1 f2 : DE)
@[simp] theorem ev_fRng : fRng f e S = bnd (f e S) rngK1 := rfl
@[simp] theorem ev_fRevL : fRevL f e S = bnd (f e S) kRevL := rfl
@[simp] theorem kRevL_lst : kRevL (.lst l) S = .ok l.reverse S := rfl
@[simp] theorem ev_fRep : fRep f1 f2 e S = bnd (f1 e S) (kRepA f2 e) := rfl
@[simp] theorem kRepA_lst : kRepA f2 e (.lst l) S = bnd (f2 e S) (kRepL l) := rfl
end
end DL
namespace DL
open PySem L2
def dcR (tg : DG) (tt : DT) (tk tv : DE) (e : Env) : List Dv → Sto → List (Key × Dv) → Res (List (Key × Dv))
  | [], S, acc => .ok acc S
  | d :: ds, S, acc => match tg d e with
    | none => .no
    | some e' => match tt e' S with
      | .ok b S1 => if b then (match tk e' S1 with
          | .ok k S2 => (match keyD k with
            | none => .no
            | some k' => (match tv e' S2 with
              | .ok v S3 => if acc.length < sizeLine then dcR tg tt tk tv e ds S3 (putD acc k' v) else .no
              | _ => .no))
          | _ => .no) else dcR tg tt tk tv e ds S1 acc
      | _ => .no
def kDc (tg : DG) (tt : DT) (tk tv : DE) (vs : List Nat) (e : Env) (ds : List Dv) (S : Sto) : Res (List (Key × Dv)) := match dcR tg tt tk tv (wipeE e vs) ds S [] with
  | .ok l S2 => .ok l S2
  | _ => .no
section
variable {X : Cx} {W : WX} {kx vx tg iter : Expr} {ifs : List Expr} {scope : Scope} {own : List (Str × Nat)} {pos : Pos} {fi : DL} {gd : DG} {tt : DT} {tk tv : DE} {vs : List Nat}
/-- the comprehension's turns over a walk -/
theorem dc_walk {K : PySem.W.Frag} {t : TG} (ho : TGok K t gd vs) {g : St} {Q : VK} {L0 L1 : Addr → Prop} {io0 io1 : List Addr} {H0 H1 : Hp} {e : Env} {S1 : Sto} {ds : List Dv} {J : It}
    (fr1 : FR K L0 io0 H0 L1 io1 H1 g e S1) (wk : WalkR K L1 io1 H1 J ds) (q : FinD K W g L1 io1 H1 Q (kDc gd tt tk tv vs e ds S1)) :
    ∀ D, H1 D = none → ∃ W : Nat → Nat → Hp → Prop, (∃ m, W 0 m (upd H1 D (.dK []))) ∧ ∀ i m H, W i m H →
  (J.stop i H ∧ Q (.ref D) H) ∨ (J.go i H ∧ ∃ Nx : Hp → Prop, (∀ H', Nx H' → ∃ m', m' < m ∧ W (i + 1) m' H') ∧ ∀ x H', J.yld i H x H' → t x (L2.wipe g vs) H' fun σ2 H2 => L2.wipe σ2 vs = L2.wipe g vs ∧ rdt K W0 tt σ2 H2 fun b H3 =>
    if b = true then rd K W0 tk σ2 H3 fun y H4 => rd K W0 tv σ2 H4 fun z H5 => ∃ kvs k, y = kV k ∧ H5 D = some (.dK kvs) ∧ kvs.length < sizeLine ∧ Nx (upd H5 D (.dK (putK kvs k z))) else Nx H3) := by
  unfold kDc at q
  cases hl : dcR gd tt tk tv (wipeE e vs) ds S1 [] with
  | ex c fs S2 => rw [hl] at q; exact q.elim
  | no => rw [hl] at q; exact q.elim
  | ok l S2 =>
    rw [hl] at q
    simp only at q
    intro D hD
    have st0 := fr1.st
    refine ⟨fun i m H' => m = ds.length - i ∧ i ≤ ds.length ∧ ∃ (L' : Addr → Prop) (io' : List Addr) (S' : Sto) (acc : List (Key × V)) (da : List (Key × Dv)), FR K L0 io0 H0 L' io' H' (L2.wipe g vs) (wipeE e vs) S' ∧ Stp L1 io1 H1 L' io' H' ∧ Stw L1 io1 H1 L' io' H' ∧ L' D ∧ D ∉ io' ∧ H' D = some (.dK acc) ∧ PairR (VR K L' io' H') acc da ∧ dcR gd tt tk tv (wipeE e vs) (ds.drop i) S' da = .ok l S2, ⟨ds.length, by simp, Nat.zero_le _, ?_⟩, ?_⟩
    · have s2 : Stp L1 io1 H1 (Ly L1 D) io1 (upd H1 D (.dK [])) := Stp.newV hD
      exact ⟨Ly L1 D, io1, S1, [], [], (fr1.step s2 (st0.newV hD)).wipe vs, s2, s2.stw st0.sub, .inr rfl, fun z => st0.dom D (st0.sub D z) hD, upd_same, .nil, by rw [List.drop_zero]; exact hl⟩
    · rintro i m H' ⟨rfl, hi, L', io', S', acc, da, fr', sp, sw, lD, nD, hDa, ra, hr⟩
      by_cases hlt : i < ds.length
      · obtain ⟨d, hd⟩ : ∃ d, ds[i]? = some d := ⟨_, List.getElem?_eq_getElem hlt⟩
        have hdrop : ds.drop i = d :: ds.drop (i + 1) := by
          rw [List.drop_eq_getElem_cons hlt]
          rw [List.getElem?_eq_getElem hlt] at hd
          cases hd
          rfl
        rw [hdrop] at hr
        obtain ⟨hgo, hy⟩ := wk.go L' io' H' S' i d sw fr'.st hd
        refine .inr ⟨hgo, fun H'' => ∃ m', m' < ds.length - i ∧ (m' = ds.length - (i + 1) ∧ i + 1 ≤ ds.length ∧ ∃ (L' : Addr → Prop) (io' : List Addr) (S' : Sto) (acc : List (Key × V)) (da : List (Key × Dv)), FR K L0 io0 H0 L' io' H'' (L2.wipe g vs) (wipeE e vs) S' ∧ Stp L1 io1 H1 L' io' H'' ∧ Stw L1 io1 H1 L' io' H'' ∧ L' D ∧ D ∉ io' ∧ H'' D = some (.dK acc) ∧ PairR (VR K L' io' H'') acc da ∧ dcR gd tt tk tv (wipeE e vs) (ds.drop (i + 1)) S' da = .ok l S2), fun H'' h => h, fun x H2 y => ?_⟩
        obtain ⟨sr2, sp2, r2⟩ := hy x H2 y
        have fr2 := fr'.step sp2 sr2
        simp only [dcR] at hr
        cases hg : gd d (wipeE e vs) with
        | none => rw [hg] at hr; cases hr
        | some e' =>
          rw [hg] at hr
          simp only at hr
          refine ho L0 io0 H0 L' io' H2 (L2.wipe g vs) (wipeE e vs) S' x d e' _ fr2 r2 hg fun g' fr3 lg kg => ⟨?_, ?_⟩
          · exact (wipe_ext lg kg).trans (wipe_ext (L2.wipe_length g vs) fun k hk => by rw [wipe_get, if_neg hk])
          · cases ht : tt e' S' with
            | ex c fs S3 => rw [ht] at hr; cases hr
            | no => rw [ht] at hr; cases hr
            | ok b S3 =>
              rw [ht] at hr
              simp only at hr
              refine ⟨L0, io0, H0, L', io', e', S', fr3, ?_⟩
              rw [ht]
              intro b' H3 L3 io3 s3 sr3 eb
              subst eb
              have fr3' := fr2.step s3 sr3
              have sp3 := (sp.trans sp2 st0.sub).trans s3 st0.sub
              have sw3 := (sw.trans (sp2.stw fr'.st.sub)).trans (s3.stw fr2.st.sub)
              have l3 : L3 D := s3.up D (sp2.up D lD)
              have k2 : H2 D = some (.dK acc) := sp2.keep D _ hDa nD
              have n3 : D ∉ io3 := fun z => by
                rcases s3.hn D z with q | q
                · exact nD q
                · rw [q] at k2; cases k2
              have k3 : H3 D = some (.dK acc) := s3.keep D _ k2 nD
              have ra3 : PairR (VR K L3 io3 H3) acc da := (ra.mono fun v d r => r.step sp2 fr'.st.sub).mono fun v d r => r.step s3 fr2.st.sub
              cases b' with
              | false =>
                rw [if_neg Bool.false_ne_true] at hr
                refine iteF ⟨_, by omega, rfl, hlt, L3, io3, S3, acc, da, fr3', sp3, sw3, l3, n3, k3, ra3, hr⟩
              | true =>
                rw [if_pos rfl] at hr
                refine iteT ?_
                cases he : tk e' S3 with
                | ex c fs S4 => rw [he] at hr; cases hr
                | no => rw [he] at hr; cases hr
                | ok yk S4 =>
                  rw [he] at hr
                  simp only at hr
                  refine ⟨L0, io0, H0, L3, io3, e', S3, fr3.step s3 sr3, ?_⟩
                  rw [he]
                  intro y H4 L4 io4 s4 sr4 ry
                  have k4 : H4 D = some (.dK acc) := s4.keep D _ k3 n3
                  have l4 : L4 D := s4.up D l3
                  have n4 : D ∉ io4 := fun z => by
                    rcases s4.hn D z with q | q
                    · exact n3 q
                    · rw [q] at k3; cases k3
                  have fr4 := fr3'.step s4 sr4
                  have sp4 := sp3.trans s4 st0.sub
                  have sw4 := sw3.trans (s4.stw fr3'.st.sub)
                  have ra4 : PairR (VR K L4 io4 H4) acc da := ra3.mono fun v d r => r.step s4 fr3'.st.sub
                  cases hk : keyD yk with
                  | none => rw [hk] at hr; cases hr
                  | some k' =>
                    rw [hk] at hr
                    simp only at hr
                    cases hv : tv e' S4 with
                    | ex c fs S5 => rw [hv] at hr; cases hr
                    | no => rw [hv] at hr; cases hr
                    | ok yv S5 =>
                      rw [hv] at hr
                      simp only at hr
                      refine ⟨L0, io0, H0, L4, io4, e', S4, (fr3.step s3 sr3).step s4 sr4, ?_⟩
                      rw [hv]
                      intro z H5 L5 io5 s5 sr5 rz
                      have k5 : H5 D = some (.dK acc) := s5.keep D _ k4 n4
                      have l5 : L5 D := s5.up D l4
                      have n5 : D ∉ io5 := fun z => by
                        rcases s5.hn D z with q | q
                        · exact n4 q
                        · rw [q] at k4; cases k4
                      have fr5 := fr4.step s5 sr5
                      have sp5 := sp4.trans s5 st0.sub
                      have sw5 := sw4.trans (s5.stw fr4.st.sub)
                      have ra5 : PairR (VR K L5 io5 H5) acc da := ra4.mono fun v d r => r.step s5 fr4.st.sub
                      split at hr
                      · rename_i hz
                        have hlen : acc.length < sizeLine := by rw [PairR.len ra5]; exact hz
                        have frm : FR K L0 io0 H0 L5 io5 (upd H5 D (.dK (putK acc k' z))) (L2.wipe g vs) (wipeE e vs) S5 := by
                          refine fr5.mutD l5 n5 (fr1.fresh0 hD) fun j q' v1 v2 v3 hg' => ?_
                          obtain ⟨o, ho', _⟩ := (fr1.wipe vs).ownAt v1 v2 v3 hg'
                          exact ne_of_none ho' hD
                        refine ⟨acc, k', keyD_ok ry hk, k5, hlen, _, by omega, rfl, hlt, L5, io5, S5, putK acc k' z, putD da k' yv, frm, ?_, sw5.trans (Stw.mut l5), l5, n5, upd_same, (PairR.put ra5 rz).mono fun v d r => r.mut l5, hr⟩
                        exact ⟨sp5.pre, sp5.hn, sp5.new, fun a o h n => by rw [upd_ne (ne_of_none h hD)]; exact sp5.keep a o h n, sp5.up⟩
                      · cases hr
      · have ei : i = ds.length := by omega
        subst ei
        rw [List.drop_length] at hr
        cases hr
        refine .inl ⟨wk.stop L' io' H' sw, ?_⟩
        exact q _ H' L' io' sp fr'.st ⟨D, acc, rfl, hD, lD, nD, hDa, ra⟩
end
end DL
namespace DL
open PySem L2
section
variable {X : Cx} {W : WX} {o e f : Expr} {apos cpos pos : Pos} {fo fk fx f1 f2 : DE} {kk : Nat}
def strKs : List (Key × Dv) → Option (List Str)
  | [] => some []
  | (.inr x, _) :: l => (strKs l).map (x :: ·)
  | _ :: _ => none
theorem strKs_ok {R : V → Dv → Prop} : ∀ {kvs : List (Key × V)} {l : List (Key × Dv)} {ks : List Str}, PairR R kvs l → strKs l = some ks → kvs.map (·.1) = ks.map Sum.inr
  | _, _, ks, .nil, h => by cases h; rfl
  | (k1, v) :: kvs, (k2, d) :: l, ks, .cons ⟨h1, h2⟩ t, h => by
    cases (show k1 = k2 from h1)
    cases k1 with
    | inl i => cases h
    | inr x =>
      simp only [strKs] at h
      obtain ⟨m, hq, rfl⟩ := map_ok h
      rw [List.map_cons, List.map_cons, strKs_ok t hq]
theorem vr_kV {K : PySem.W.Frag} {L : Addr → Prop} {io : List Addr} {H : Hp} (k : Key) : VR K L io H (kV k) (dV k) := by
  cases k with
  | inl i => exact .int i
  | inr x => exact .str x
end
end DL
namespace DL
open PySem L2
end DL
namespace DL
open PySem L2
def frzN : Nat → Sto → Dv → Dv
  | n + 1, S, .hdl k => (match S[k]? with
    | some (.lst l) => .lst (l.map (frzN n S))
    | some (.dct l) => .dic (l.map fun q => (q.1, frzN n S q.2))
    | some (.ins c fs) => .obj c (fs.map fun q => (q.1, frzN n S q.2))
    | _ => .hdl k)
  | _, _, d => d
abbrev L00 : Addr → Prop := fun _ => False
section
variable {K : PySem.W.Frag} {L : Addr → Prop} {io : List Addr} {H : Hp} {S : Sto}
theorem noh_all {v : V} {d : Dv} (r : VR K L io H v d) (h : noH d = true) : VR K L00 [] H v d := VR.noh (fun a o e _ => ⟨e, fun z => z⟩) r h
theorem frzs_ok (n : Nat) (ih : ∀ (d : Dv) (v : V), VR K L io H v d → noH (frzN n S d) = true → VR K L00 [] H v (frzN n S d)) : ∀ (l : List Dv) (vs : List V), VRs K L io H vs l → noHs (l.map (frzN n S)) = true → VRs K L00 [] H vs (l.map (frzN n S))
  | [], _, .nil, _ => .nil
  | d :: l, _, .cons h t, e => by
    simp only [List.map_cons, noHs, Bool.and_eq_true] at e
    exact .cons (ih d _ h e.1) (frzs_ok n ih l _ t e.2)
theorem frzp_ok (n : Nat) (ih : ∀ (d : Dv) (v : V), VR K L io H v d → noH (frzN n S d) = true → VR K L00 [] H v (frzN n S d)) : ∀ (l : List (Key × Dv)) (vs : List (Key × V)), PairR (VR K L io H) vs l → noHp (l.map fun q => (q.1, frzN n S q.2)) = true → PairR (VR K L00 [] H) vs (l.map fun q => (q.1, frzN n S q.2))
  | [], _, .nil, _ => .nil
  | (k2, d) :: l, (k1, v) :: vs, .cons ⟨h1, h2⟩ t, e => by
    simp only [List.map_cons, noHp, Bool.and_eq_true] at e
    exact .cons ⟨h1, ih d v h2 e.1⟩ (frzp_ok n ih l vs t e.2)
theorem frzf_ok (n : Nat) (ih : ∀ (d : Dv) (v : V), VR K L io H v d → noH (frzN n S d) = true → VR K L00 [] H v (frzN n S d)) : ∀ (l : List (Str × Dv)) (vs : List (Str × V)), PairR (VR K L io H) vs l → noHf (l.map fun q => (q.1, frzN n S q.2)) = true → PairR (VR K L00 [] H) vs (l.map fun q => (q.1, frzN n S q.2))
  | [], _, .nil, _ => .nil
  | (k2, d) :: l, (k1, v) :: vs, .cons ⟨h1, h2⟩ t, e => by
    simp only [List.map_cons, noHf, Bool.and_eq_true] at e
    exact .cons ⟨h1, ih d v h2 e.1⟩ (frzf_ok n ih l vs t e.2)
theorem frzN_ok (sr : SR K L io H S) : ∀ (n : Nat) (d : Dv) (v : V), VR K L io H v d → noH (frzN n S d) = true → VR K L00 [] H v (frzN n S d)
  | 0, d, v, r, e => by
    cases d <;> exact noh_all r e
  | n + 1, .hdl k, v, r, e => by
    cases r with
    | hdl hk =>
      rename_i a
      cases q : S[k]? with
      | none => simp only [frzN, q, noH] at e; cases e
      | some o =>
        cases o with
        | lst l =>
          simp only [frzN, q, noH] at e ⊢
          obtain ⟨xs, h, t⟩ := sr.obj k a _ hk q
          exact .lst (fun z => z) h (frzs_ok n (frzN_ok sr n) l xs t e)
        | dct l =>
          simp only [frzN, q, noH] at e ⊢
          obtain ⟨xs, h, t⟩ := sr.obj k a _ hk q
          exact .dic (fun z => z) (.inl h) (frzp_ok n (frzN_ok sr n) l xs t e).vrp
        | ins c fs =>
          simp only [frzN, q, noH] at e ⊢
          obtain ⟨dx, xs, h, t⟩ := sr.obj k a _ hk q
          exact .obj (fun z => z) h (vrf_of (frzf_ok n (frzN_ok sr n) fs xs t e))
        | ext => simp only [frzN, q, noH] at e; cases e
  | n + 1, .non, v, r, e => noh_all r e
  | n + 1, .bl _, v, r, e => noh_all r e
  | n + 1, .int _, v, r, e => noh_all r e
  | n + 1, .str _, v, r, e => noh_all r e
  | n + 1, .tup _, v, r, e => noh_all r e
  | n + 1, .lst _, v, r, e => noh_all r e
  | n + 1, .rol _, v, r, e => noh_all r e
  | n + 1, .dic _, v, r, e => noh_all r e
  | n + 1, .obj _ _, v, r, e => noh_all r e
  | n + 1, .glo _, v, r, e => noh_all r e
  | n + 1, .ty _, v, r, e => noh_all r e
  | n + 1, .ext _ _ _ _, v, r, e => noh_all r e
/-- dicts are locked -/
theorem VR.lock {H' : Hp} (hl : ∀ b o, H b = some o → H' b = some o ∨ ∃ kvs od, o = .dK kvs ∧ H' b = some (.frz od o)) {v : V} {d : Dv} (h : VR K L00 [] H v d) : VR K L00 [] H' v d := by
  have rdl : ∀ {a : Addr} {xs : List V}, Rd H a (.lst xs) → Rd H' a (.lst xs) := fun {a xs} r => by
    rcases r with r | ⟨o, r⟩
    · rcases hl a _ r with z | ⟨kvs, od, z, _⟩
      · exact .inl z
      · cases z
    · rcases hl a _ r with z | ⟨kvs, od, z, _⟩
      · exact .inr ⟨o, z⟩
      · cases z
  have rdd : ∀ {a : Addr} {kvs : List (Key × V)}, Rd H a (.dK kvs) → Rd H' a (.dK kvs) := fun {a kvs} r => by
    rcases r with r | ⟨o, r⟩
    · rcases hl a _ r with z | ⟨kvs, od, z, z2⟩
      · exact .inl z
      · exact .inr ⟨od, z2⟩
    · rcases hl a _ r with z | ⟨kvs, od, z, _⟩
      · exact .inr ⟨o, z⟩
      · cases z
  refine VR.rec (motive_1 := fun v d _ => VR K L00 [] H' v d) (motive_2 := fun vs ds _ => VRs K L00 [] H' vs ds) (motive_3 := fun vs ds _ => VRp K L00 [] H' vs ds) (motive_4 := fun vs ds _ => VRf K L00 [] H' vs ds) ?_ ?_ ?_ ?_ ?_ ?_ ?_ ?_ ?_ ?_ ?_ ?_ ?_ ?_ ?_ ?_ ?_ ?_ ?_ ?_ ?_ h
  · exact .non
  · exact fun b => .bl b
  · exact fun i => .int i
  · exact fun x => .str x
  · intro a xs ds nl e _ ih
    rcases hl a _ e with z | ⟨kvs, od, z, _⟩
    · exact .tup nl z ih
    · cases z
  · exact fun h _ ih => .tupK h ih
  · intro a xs ds nl e _ ih
    rcases hl a _ e with z | ⟨kvs, od, z, _⟩
    · exact .lst nl z ih
    · cases z
  · intro a xs ds nl r _ ih
    exact .rol nl (rdl r) ih
  · exact fun h _ ih => .rolK h ih
  · intro a xs ds nl r _ ih
    exact .dic nl (rdd r) ih
  · intro a dx c vs fs nl e _ ih
    rcases hl a _ e with z | ⟨kvs, od, z, _⟩
    · exact .obj nl z ih
    · cases z
  · exact fun h => .hdl h
  · exact fun x => .glo x
  · exact fun n => .ty n
  · intro a t c ns vs ds os h0 hk ho _ ih
    refine .ext h0 hk (fun p hp => ⟨fun z => z, ?_⟩) ih
    rcases hl _ _ (ho p hp).2 with z | ⟨kvs, od, z, _⟩
    · exact z
    · exact absurd z (hk.nodk p hp kvs)
  · exact .nil
  · exact fun _ _ h1 h2 => .cons h1 h2
  · exact .nil
  · exact fun _ _ h1 h2 => .cons h1 h2
  · exact .nil
  · exact fun _ _ h1 h2 => .cons h1 h2
def vwS (S : Sto) : Sl → Sl
  | .va d => if noH (frzN 4 S d) = true then .va (frzN 4 S d) else .no
  | _ => .no
def vwE (S : Sto) (e : Env) : Env := e.map (vwS S)
theorem sr00 (H : Hp) : SR K L00 [] H [] where
  len := rfl
  nd := List.nodup_nil
  sub := fun _ h => by simp at h
  dom := fun _ h => h.elim
  obj := fun k a o h => by simp at h
/-- the view's frame, dicts locked or not -/
theorem FR.view {L0 : Addr → Prop} {io0 : List Addr} {H0 H' : Hp} {g : St} {e : Env} (fr : FR K L0 io0 H0 L io H g e S) (hl : ∀ b o, H b = some o → H' b = some o ∨ ∃ kvs od, o = .dK kvs ∧ H' b = some (.frz od o)) : FR K L00 [] H' L00 [] H' g (vwE S e) [] where
  st := sr00 H'
  len := by simp only [vwE, List.length_map]; exact fr.len
  va := fun i d h => by
    simp only [vwE, List.getElem?_map] at h
    cases he : e[i]? with
    | none => rw [he] at h; cases h
    | some sl =>
      rw [he] at h
      cases sl with
      | va d' =>
        simp only [Option.map_some, vwS] at h
        split at h
        · rename_i hn
          cases h
          obtain ⟨v, h1, h2⟩ := fr.va i d' he
          exact ⟨v, h1, VR.lock hl (frzN_ok fr.st 4 d' v h2 hn)⟩
        · cases h
      | no => cases h
      | own o => cases h
  own := fun i o h => by
    simp only [vwE, List.getElem?_map] at h
    cases he : e[i]? with
    | none => rw [he] at h; cases h
    | some sl =>
      rw [he] at h
      cases sl with
      | va d' =>
        simp only [Option.map_some, vwS] at h
        split at h <;> cases h
      | no => cases h
      | own o => cases h
  inj := fun i j p _ v1 _ v2 _ hg _ => by
    simp only [vwE, List.getElem?_map] at v1 v2
    cases he : e[i]? with
    | none =>
      have : g[i]? = none := by
        rw [List.getElem?_eq_none_iff] at he ⊢
        rw [fr.len]; exact he
      rw [this] at hg
      cases hg
    | some sl =>
      rw [he] at v1 v2
      cases sl with
      | va d' =>
        simp only [Option.map_some, vwS] at v1 v2
        split at v1
        · exact v1 _ rfl
        · rename_i hn; rw [if_neg hn] at v2; exact v2 rfl
      | no => exact v2 rfl
      | own o => exact v2 rfl
  en := Stp.refl ..
  sub0 := fun _ h => by simp at h
  dom0 := fun _ h => h.elim
end
theorem walk_keys {K : PySem.W.Frag} {H : Hp} {a : Addr} {od : Obj} {kvs : List (Key × V)} {l : List (Key × Dv)} (hd : H a = some (.frz od (.dK kvs))) (hk : kvs.map (·.1) = l.map (·.1)) : WalkR K L00 [] H (Itk a od kvs) (l.map fun q => dV q.1) where
  go := fun L1 io1 H1 S i d s sr h => by
    have h1 := s.keep a _ hd (fun z => z)
    have hlen : kvs.length = l.length := by have := congrArg List.length hk; simpa using this
    have hi : i < l.length := by
      have := (List.getElem?_eq_some_iff.mp h).1
      simpa using this
    refine ⟨⟨h1, by omega⟩, fun x H2 ⟨e, k, v, ek, ex⟩ => ?_⟩
    subst e ex
    refine ⟨sr, Stp.refl .., ?_⟩
    have e1 : (l.map (·.1))[i]? = some k := by rw [← hk, List.getElem?_map, ek]; rfl
    have e2 : d = dV k := by
      rw [List.getElem?_map] at h e1
      cases hl : l[i]? with
      | none => rw [hl] at h; cases h
      | some q => rw [hl] at h e1; cases h; cases e1; rfl
    subst e2
    exact vr_kV k
  stop := fun L1 io1 H1 s => by
    have h1 := s.keep a _ hd (fun z => z)
    have hlen : kvs.length = l.length := by have := congrArg List.length hk; simpa using this
    exact ⟨h1, by simp [hlen]⟩
theorem pair_keys {R : V → Dv → Prop} : ∀ {kvs : List (Key × V)} {l : List (Key × Dv)}, PairR R kvs l → kvs.map (·.1) = l.map (·.1)
  | _, _, .nil => rfl
  | (k1, v) :: kvs, (k2, d) :: l, .cons ⟨h1, h2⟩ t => by
    cases (show k1 = k2 from h1)
    rw [List.map_cons, List.map_cons, pair_keys t]
end DL
namespace DL
open PySem L2
def gL (gs : DGs) : DG := fun d e => (asF d).bind fun l => gs l e
@[simp] theorem ev_gL (gs : DGs) (l : List Dv) (e : Env) : gL gs (.lst l) e = gs l e := rfl
end DL
namespace DL
open PySem L2 PySem.Spec PyProof.Rows
end DL
namespace DL
open PySem L2
end DL
namespace DL
open PySem L2
def flatP (m : List (Key × Dv)) : Bool := m.all fun q => flatD q.2
def kDcV (gd : DG) (tt : DT) (tk tv : DE) (vs : List Nat) (e : Env) (S : Sto) (l : List (Key × Dv)) : Res (List (Key × Dv)) := match kDc gd tt tk tv vs (vwE S e) (l.map fun q => dV q.1) [] with
  | .ok m [] => if flatP m = true then .ok m S else .no
  | _ => .no
def dDcV (i : Nat) (gd : DG) (tt : DT) (tk tv : DE) (vs : List Nat) : DD := fun e S => match e[i]? with
  | some (.va d) => (match asD S d with
    | some l => kDcV gd tt tk tv vs e S l
    | none => .no)
  | _ => .no
theorem pair_flat {K : PySem.W.Frag} {L : Addr → Prop} {io : List Addr} {H : Hp} {L' : Addr → Prop} {io' : List Addr} {H' : Hp} : ∀ {kvs : List (Key × V)} {l : List (Key × Dv)}, PairR (VR K L io H) kvs l → flatP l = true → PairR (VR K L' io' H') kvs l
  | _, _, .nil, _ => .nil
  | (k1, v) :: kvs, (k2, d) :: l, .cons ⟨h1, h2⟩ t, h => by
    simp only [flatP, List.all_cons, Bool.and_eq_true] at h
    have h2 : VR K L io H v d := h2
    refine .cons ⟨h1, ?_⟩ (pair_flat t h.2)
    have h3 := h.1
    show VR K L' io' H' v d
    cases h2 <;> first | exact .non | exact .bl _ | exact .int _ | exact .str _ | (simp [flatD] at h3)
section
variable {X : Cx} {W : WX} {kx vx tg : Expr} {ifs : List Expr} {scope : Scope} {own : List (Str × Nat)} {pos p : Pos} {gd : DG} {tt : DT} {tk tv : DE} {vs : List Nat} {x : Str}
theorem rd_dcV {K : PySem.W.Frag} {t : TG} {i : Nat} (ho : TGok K t gd vs) {g : St} {H : Hp} {Q : VK} (q : rdD K W (dDcV i gd tt tk tv vs) g H Q) :
    tLockE (tDc (iKeys (tVar i)) t (rdt K W0 tt) (rd K W0 tk) (rd K W0 tv) vs) g H Q ∨ tDc (iKeys (tVar i)) t (rdt K W0 tt) (rd K W0 tk) (rd K W0 tv) vs g H Q := by
  obtain ⟨L0, io0, H0, L, io, e, S, fr, q⟩ := q
  unfold dDcV at q
  cases he : e[i]? with
  | none => rw [he] at q; exact q.elim
  | some sl =>
    rw [he] at q
    cases sl with
    | va d =>
      simp only at q
      cases h1 : asD S d with
      | none => rw [h1] at q; exact q.elim
      | some l =>
        rw [h1] at q
        simp only [kDcV] at q
        cases hk : kDc gd tt tk tv vs (vwE S e) (l.map fun q => dV q.1) [] with
        | no => rw [hk] at q; exact q.elim
        | ex _ _ _ => rw [hk] at q; exact q.elim
        | ok m S2 =>
          rw [hk] at q
          cases S2 with
          | cons _ _ => exact q.elim
          | nil =>
            simp only at q
            split at q
            · rename_i hm
              obtain ⟨v, gv, rv⟩ := fr.va i d he
              obtain ⟨a, kvs, rfl, ha, pk⟩ := asD_ok fr.st rv h1
              rcases ha with ha | ⟨od, ha⟩
              · refine .inl ⟨a, .dK kvs, ha, trivial, fun od => ?_⟩
                have hlk : ∀ b' o, H b' = some o → (upd H a (.frz od (.dK kvs))) b' = some o ∨ ∃ kvs' od', o = .dK kvs' ∧ (upd H a (.frz od (.dK kvs))) b' = some (.frz od' o) := fun b' o e' => by
                  by_cases z : b' = a
                  · subst z
                    rw [ha] at e'
                    cases e'
                    exact .inr ⟨kvs, od, rfl, upd_same⟩
                  · exact .inl (by rw [upd_ne z]; exact e')
                have frv := fr.view hlk
                refine ⟨_, gv, a, od, rfl, .inl ⟨kvs, upd_same, ?_⟩⟩
                refine dc_walk (W := W) (Q := fun v H' => H' a = some (.frz od (.dK kvs)) ∧ Q v (upd H' a (.dK kvs))) ho frv (walk_keys upd_same (pair_keys pk)) ?_
                rw [hk]
                intro v H2 L2' io2 s2 sr2 ⟨p', kvs2, ev, hp, lp, np, hp2, pp⟩
                subst ev
                have ka : H2 a = some (.frz od (.dK kvs)) := s2.keep a _ upd_same (by simp)
                refine ⟨ka, ?_⟩
                have hpa : p' ≠ a := fun z => by subst z; rw [upd_same] at hp; cases hp
                have hpn : H p' = none := by rw [upd_ne hpa] at hp; exact hp
                have keepA : ∀ b' o, H b' = some o → (upd H2 a (.dK kvs)) b' = some o := fun b' o e' => by
                  by_cases z : b' = a
                  · subst z; rw [ha] at e'; cases e'; exact upd_same
                  · rw [upd_ne z]
                    exact s2.keep b' o (by rw [upd_ne z]; exact e') (by simp)
                have st : Stp L io H (Ly L p') io (upd H2 a (.dK kvs)) := ⟨⟨[], by simp⟩, fun _ h => .inl h, fun b' h => h.elim .inl fun z => .inr (by rw [z]; exact hpn), fun b' o e' _ => keepA b' o e', fun _ h => .inl h⟩
                have hpi : p' ∉ io := fun z => fr.st.dom p' (fr.st.sub p' z) hpn
                have dm : ∀ b', Ly L p' b' → (upd H2 a (.dK kvs)) b' ≠ none := fun b' h => by
                  rcases h with h | h
                  · cases hz : H b' with
                    | none => exact absurd hz (fr.st.dom b' h)
                    | some o => rw [keepA b' o hz]; exact fun z => nomatch z
                  · rw [h, upd_ne hpa, hp2]; exact fun z => nomatch z
                have sr : SR K (Ly L p') io (upd H2 a (.dK kvs)) S := ⟨fr.st.len, fr.st.nd, fun b' h => .inl (fr.st.sub b' h), dm, fun k b' o e1 e2 => (fr.st.obj k b' o e1 e2).mono (fun u e' => keepA b' u e') fun v d r => r.step st fr.st.sub⟩
                exact q _ _ (Ly L p') io st sr ⟨p', kvs2, rfl, hpn, .inr rfl, hpi, by rw [upd_ne hpa]; exact hp2, pair_flat pp hm⟩
              · refine .inr ?_
                have frv := fr.view (H' := H) fun b o e => .inl e
                refine ⟨_, gv, a, od, rfl, .inl ⟨kvs, ha, ?_⟩⟩
                refine dc_walk (W := W) (Q := Q) ho frv (walk_keys ha (pair_keys pk)) ?_
                rw [hk]
                intro v H2 L2' io2 s2 sr2 ⟨p', kvs2, ev, hp, lp, np, hp2, pp⟩
                subst ev
                have keepA : ∀ b' o, H b' = some o → H2 b' = some o := fun b' o e' => s2.keep b' o e' (by simp)
                have st : Stp L io H (Ly L p') io H2 := ⟨⟨[], by simp⟩, fun _ h => .inl h, fun b' h => h.elim .inl fun z => .inr (by rw [z]; exact hp), fun b' o e' _ => keepA b' o e', fun _ h => .inl h⟩
                have hpi : p' ∉ io := fun z => fr.st.dom p' (fr.st.sub p' z) hp
                have dm : ∀ b', Ly L p' b' → H2 b' ≠ none := fun b' h => by
                  rcases h with h | h
                  · cases hz : H b' with
                    | none => exact absurd hz (fr.st.dom b' h)
                    | some o => rw [keepA b' o hz]; exact fun z => nomatch z
                  · rw [h, hp2]; exact fun z => nomatch z
                have sr : SR K (Ly L p') io H2 S := ⟨fr.st.len, fr.st.nd, fun b' h => .inl (fr.st.sub b' h), dm, fun k b' o e1 e2 => (fr.st.obj k b' o e1 e2).mono (fun u e' => keepA b' u e') fun v d r => r.step st fr.st.sub⟩
                exact q _ _ (Ly L p') io st sr ⟨p', kvs2, rfl, hp, .inr rfl, hpi, hp2, pair_flat pp hm⟩
            · exact q.elim
    | _ => exact q.elim
end
end DL
namespace DL
open PySem L2
section
variable {X : Cx}
open PySem.Spec PyProof.Rows
theorem ps_setDc {i : Nat} {y : Str} {py : Pos} {kx vx tg iter : Expr} {ifs : List Expr} {scope : Scope} {own : List (Str × Nat)} {pos spos : Pos} {wi : TI} {g : TG} {tt : TT} {tk tv : TE} (hc : X.calm = true) (hN : X.N.Nodup) (hy : X.N[i]? = some y) (hyl : X.env.scope.names.lookup y = some .local)
    (hsw : swapsWith (.DictComp kx vx [⟨tg, iter, ifs, 0⟩] scope pos) (some (.Name y py)) spos.line X.env = pure true) (hi : PI X tg iter wi) (ok : BlkOk X.N X.env.scope scope own)
    (hg : ∀ (s : Shared) (H : Hp) (C : Addr) (cl : List (Str × Addr)) (fp : List Addr), PG (X.blk s H scope (compEnvC scope cl C X.env) fp) tg g) (ht : ∀ (s : Shared) (H : Hp) (C : Addr) (cl : List (Str × Addr)) (fp : List Addr), PTs (X.blk s H scope (compEnvC scope cl C X.env) fp) ifs tt)
    (hk : ∀ (s : Shared) (H : Hp) (C : Addr) (cl : List (Str × Addr)) (fp : List Addr), PE (X.blk s H scope (compEnvC scope cl C X.env) fp) kx tk)
    (he : ∀ (s : Shared) (H : Hp) (C : Addr) (cl : List (Str × Addr)) (fp : List Addr), PE (X.blk s H scope (compEnvC scope cl C X.env) fp) vx tv) (hs : ∀ x, foldedSetIterable iter X.env x = pure x := by intro _; rfl) :
    PS X (.Assign [.Name y py] (.DictComp kx vx [⟨tg, iter, ifs, 0⟩] scope pos) spos) (tAsg (tDc wi g tt tk tv (own.map (·.2))) (gName i)) := by
  refine ⟨fun pins s σ H D I h => ?_⟩
  rw [exec_Assign_Name_used _ _ _ _ hsw]
  refine wpAny_bind (wpAny_standAt (wpAny_bind ?_))
  show wpAny _ X.A (do let _ ← comprehension (.DictComp kx vx [⟨tg, iter, ifs, 0⟩] scope pos) scope X.env (firstIterPos [⟨tg, iter, ifs, 0⟩] pos) newDict false (eval iter X.env) (some (assign (.Name y py) X.env))) _ _ s
  have h : tDc wi g tt tk tv (own.map (·.2)) σ H (fun x H1 => gName i x σ H1 D.nx) := h
  refine wpAny_bind (thn (dc_core (Qf := fun _ s' => SP X pins D .next s') hc hN I hi ok hg ht hk he hs h fun L C s' m H' I' q hn f => ?_) fun _ s' hq => wpAny_pure (wpAny_pure hq))
  show wpAny _ _ (assign (.Name y py) X.env (.ref L)) _ _ _
  refine wpAny_assign_Name (store_ok2 (v := V.ref L) I' hN hy (.inl hyl) rfl (fun s2 I2 ⟨a, sb, ha⟩ => ?_) (.inr hyl))
  obtain ⟨f0, f1, f2, f3, f4, f5⟩ := f
  have haC : C ≠ a := by
    rcases ha with z | z
    · rw [z]; exact f1
    · exact fun e => f4 y a z e.symm
  refine ⟨m, hn.sameBut sb haC, fun h3 sb3 => ?_⟩
  exact ⟨_, H', I2.turned (t' := s2.toks) (fun b o hb e => (sb3.2 b hb).trans e) f0 f1 f3 f4 f5, q⟩
theorem sw_trueD {kx vx : Expr} {gs : List Comprehension} {scope : Scope} {pos py : Pos} {y : Str} {l : Nat} {env : PySem.Env} (hk : env.scope.kind = .function) (hy : env.scope.names.lookup y = some .local) (hl : (py.line == pos.line) = true)
    (ha : (scope.names.any fun (n, k) => n == y && (k == .local || k == .cell)) = false) : swapsWith (.DictComp kx vx gs scope pos) (some (.Name y py)) l env = pure true := by
  have ky : env.kindOf y = some .local := hy
  have hb : env.blockKind = .function := by unfold PySem.Env.blockKind; rw [hk]; rfl
  unfold swapsWith
  simp only [hb, ky, ha, Expr.pos, hl]
  rfl
end
theorem rd_hdlN {K : PySem.W.Frag} {W : WX} {f : DN} {g : St} {H : Hp} {Q : VK} (q : rd K W (eHdlN f) g H Q) : rdN K W f g H Q := by
  obtain ⟨L0, io0, H0, L, io, e, S, fr, q⟩ := q
  refine ⟨L0, io0, H0, L, io, e, S, fr, ?_⟩
  have q : Fin K W (VR K) g L io H Q (bnd (f e S) fun o S' => .ok (.hdl S'.length) (S' ++ [o])) := q
  cases hf : f e S with
  | no => rw [hf] at q; exact q
  | ex c fs S' => rw [hf] at q; exact q
  | ok o S' =>
    rw [hf] at q
    rintro v H' L' io' s sr ⟨p, rfl, hp, lp, np, ob⟩
    refine q _ H' L' (io' ++ [p]) ⟨?_, fun x hx => ?_, s.new, s.keep, s.up⟩ (sr.addO lp np ob) (.hdl (by rw [← sr.len]; simp))
    · obtain ⟨m, rfl⟩ := s.pre
      exact ⟨m ++ [p], by simp⟩
    · rcases List.mem_append.mp hx with z | z
      · exact s.hn x z
      · simp at z; subst z; exact .inr hp
theorem rdN_d {K : PySem.W.Frag} {W : WX} {f : DD} {g : St} {H : Hp} {Q : VK} (q : rdN K W (nD f) g H Q) : rdD K W f g H Q := by
  obtain ⟨L0, io0, H0, L, io, e, S, fr, q⟩ := q
  refine ⟨L0, io0, H0, L, io, e, S, fr, ?_⟩
  unfold nD at q
  cases hf : f e S with
  | ok l S' => rw [hf] at q; exact fun v H' L' io' s sr ⟨p, xs, hv, hp, lp, np, h1, h2⟩ => q v H' L' io' s sr ⟨p, hv, hp, lp, np, xs, h1, h2⟩
  | ex c fs S' => rw [hf] at q; exact q
  | no => rw [hf] at q; exact q
section
variable {X : Cx} {W : WX} {kx vx tg : Expr} {ifs : List Expr} {scope : Scope} {own : List (Str × Nat)} {pos spos py p : Pos} {gd : DG} {tt : DT} {tk tv : DE} {x y : Str}
theorem qs_asgDcV (hN' : X.N.Nodup) (j : Nat) (i : Nat) (hc : X.calm = true) (hN : X.N.Nodup) (ok : BlkOk X.N X.env.scope scope own)
    (hg : ∀ (s : Shared) (H : Hp) (C : Addr) (cl : List (Str × Addr)) (fp : List Addr), QG (X.blk s H scope (compEnvC scope cl C X.env) fp) tg gd (own.map (·.2)))
    (ht : ∀ (s : Shared) (H : Hp) (C : Addr) (cl : List (Str × Addr)) (fp : List Addr), QTs (X.blk s H scope (compEnvC scope cl C X.env) fp) W0 ifs tt)
    (hk : ∀ (s : Shared) (H : Hp) (C : Addr) (cl : List (Str × Addr)) (fp : List Addr), QE (X.blk s H scope (compEnvC scope cl C X.env) fp) W0 kx tk)
    (he : ∀ (s : Shared) (H : Hp) (C : Addr) (cl : List (Str × Addr)) (fp : List Addr), QE (X.blk s H scope (compEnvC scope cl C X.env) fp) W0 vx tv)
    (hNx : X.N[i]? = some x := by rfl) (hv : Vis X.env.scope x := by first | exact Or.inl rfl | exact Or.inr (Or.inl rfl) | exact Or.inr (Or.inr rfl)) (hdb : (x == ("__debug__" : Str)) = false := by decide) (hcd : (x == ("__classdict__" : Str)) = false := by decide)
    (hs : ∀ y, foldedSetIterable (.Name x p) X.env y = pure y := by intro _; rfl) (hy : X.N[j]? = some y := by rfl) (hyl : X.env.scope.names.lookup y = some .local := by rfl)
    (hsw : swapsWith (.DictComp kx vx [⟨tg, .Name x p, ifs, 0⟩] scope pos) (some (.Name y py)) spos.line X.env = pure true := by exact sw_trueD rfl rfl rfl (by decide +kernel)) :
    QS X W (.Assign [.Name y py] (.DictComp kx vx [⟨tg, .Name x p, ifs, 0⟩] scope pos) spos) (sAsg j (eHdlN (nD (dDcV i gd tt tk tv (own.map (·.2)))))) := by
  have P := ps_setDc (g := tgR X.K gd (own.map (·.2))) (tt := rdt X.K W0 tt) (tk := rd X.K W0 tk) (tv := rd X.K W0 tv) hc hN hy hyl hsw (pi_keys (pe_var (i := i) (pos := p) hNx hv hdb hcd)) ok (fun s H C cl fp => (hg s H C cl fp).canon) ht hk he hs
  refine ⟨fun pins s σ H D I h => ?_⟩
  have h' : rd X.K W (eHdlN (nD (dDcV i gd tt tk tv (own.map (·.2))))) σ H (fun v H1 => gName j v σ H1 D.nx) :=
    rds_bind (R := VR X.K) (k := fun e d S => .nx (e.set j (.va d)) S) h fun L0 io0 H0 L io H1 e S d v fr r q => q _ H1 L io (Stw.refl ..) (fr.setV j r)
  rcases rd_dcV (W := W) tgR_ok (rdN_d (rd_hdlN h')) with h | h
  · exact (ps_lock P).run pins s σ H D I h
  · exact P.run pins s σ H D I h
end
end DL
namespace SrtF
open PySem PySem.Spec PyProof.Rows L2
structure KeepF (fs : List Addr) (h h' : Heap) : Prop where
  k : ∀ b o, h.get? b = some o → b ∉ fs → h'.get? b = some o
  f : ∀ b o, h.get? b = some o → b ∈ fs → ∃ sl, h'.get? b = some { o with slots := sl }
section
variable {fs : List Addr} {h h' h2 : Heap} {H : Hp} {P : Program} {w : World}
theorem KeepF.of (k : ∀ b o, h.get? b = some o → h'.get? b = some o) : KeepF fs h h' := ⟨fun b o e _ => k b o e, fun b o e _ => ⟨o.slots, k b o e⟩⟩
theorem KeepF.trans (a : KeepF fs h h') (b : KeepF fs h' h2) : KeepF fs h h2 := ⟨fun x o e n => b.k x o (a.k x o e n) n, fun x o e n => by
  obtain ⟨sl, e1⟩ := a.f x o e n
  obtain ⟨sl2, e2⟩ := b.f x _ e1 n
  exact ⟨sl2, e2⟩⟩
theorem KeepF.there (a : KeepF fs h h') {b : Addr} {o : Obj} (e : h.get? b = some o) : ∃ o', h'.get? b = some o' := by
  by_cases hb : b ∈ fs
  · obtain ⟨sl, e1⟩ := a.f b o e hb
    exact ⟨_, e1⟩
  · exact ⟨o, a.k b o e hb⟩
theorem KeepF.un (a : KeepF fs h h') : Un fs [] H H h h' :=
  ⟨fun b o e _ nf _ => a.k b o e nf, fun b o e _ hf _ => a.f b o e hf, fun _ _ _ n _ => n, fun b o e _ => a.there e, fun _ _ q => q, fun _ _ _ q => q, fun _ ps q => ⟨#[], by rw [q]; simp⟩⟩
theorem obj_there {c : Addr} {o : HO} (x : ObjOk P w H h c o) : ∃ u, h.get? c = some u := by
  cases o with
  | lst xs => obtain ⟨_, _, _, _, e⟩ := x; exact ⟨_, e⟩
  | tup xs => obtain ⟨_, _, _, o, e, _⟩ := x; exact ⟨_, e⟩
  | dK kvs => obtain ⟨_, _, _, _, o, _, _, e, _⟩ := x; exact ⟨_, e⟩
  | dT kvs => obtain ⟨_, _, _, _, o, _, _, e, _⟩ := x; exact ⟨_, e⟩
  | set S n => obtain ⟨o, _, _, _, e, _⟩ := x; exact ⟨_, e⟩
  | ins C dx fs => obtain ⟨_, _, _, e, _⟩ := x; exact ⟨_, e⟩
  | own y => obtain ⟨_, e⟩ := x; exact ⟨_, e⟩
  | xd fs => obtain ⟨_, ⟨_, _, _, e, _⟩, _⟩ := x; exact ⟨_, e⟩
  | rng lo hi => obtain ⟨_, _, _, e⟩ := x; exact ⟨_, e⟩
  | frz ob u => obtain ⟨e, _⟩ := x; exact ⟨_, e⟩
  | tbl ps => exact ⟨_, show h.get? c = some _ from x⟩
  | met f y => exact ⟨_, show h.get? c = some _ from x⟩
  | ext φ => obtain ⟨_, ⟨_, e⟩, _⟩ := x; exact ⟨_, e⟩
theorem KeepF.hok (a : KeepF fs h h') (x : HOk P w H h) (hf : ∀ b ∈ fs, H b = none) : HOk P w H h' := fun c o e =>
  (x c o e).stay (fun b u hb q => a.k b u q fun z => by
    have := hf b z
    rcases hb with rfl | hb
    · rw [this] at e; cases e
    · rw [this] at hb; cases hb) (fun _ q => q) fun _ _ q => q
end
section
variable {X : Cx} {pins : List (Addr × Obj)} {σ : L2.St} {H : Hp} {s s' : Shared}
theorem KeepF.inv (a : KeepF (frs X.stack) s.heap s'.heap) (I : Inv X pins σ H s) (ho : s'.os = s.os) (hg : AllBare s'.gens) : Inv X pins σ H s' :=
  I.call' ho a.un (a.hok I.hok I.stkFree) hg fun b z => nomatch z
theorem fresh_of {p : Addr} (I : Inv X pins σ H s) (ne : ∀ b u, s.heap.get? b = some u → b ≠ p) : H p = none := by
  cases e : H p with
  | none => rfl
  | some u =>
    obtain ⟨o, h⟩ := obj_there (I.hok p u e)
    exact (ne p o h rfl).elim
/-- a new object is told behind it -/
theorem KeepF.laid {p : Addr} {o : HO} (a : KeepF (frs X.stack) s.heap s'.heap) (I : Inv X pins σ H s) (ho : s'.os = s.os) (hg : AllBare s'.gens) (ne : ∀ b u, s.heap.get? b = some u → b ≠ p) (new : ObjOk X.prog X.w (upd H p o) s'.heap p o) : Inv X pins σ (upd H p o) s' := by
  have hn : H p = none := fresh_of I ne
  have ne2 : ∀ b u, H b = some u → b ≠ p := fun b u e z => by rw [z, hn] at e; cases e
  refine I.call' (ch := []) ho ⟨fun b u e _ nf _ => a.k b u e nf, fun b u e _ hf _ => a.f b u e hf, fun b u e n _ => by rw [upd_ne (ne b u e)]; exact n, fun b u e _ => a.there e, fun b xs q => by rw [upd_ne (ne2 b _ q)]; exact q, fun b _ _ q => by rw [upd_ne (ne2 b _ q)]; exact q, fun b ps q => ⟨#[], by rw [upd_ne (ne2 b _ q), q]; simp⟩⟩ (fun c u e => ?_) hg fun b z => nomatch z
  by_cases hc : c = p
  · subst hc
    rw [upd_same] at e
    cases e
    exact new
  · rw [upd_ne hc] at e
    exact (I.hok c u e).stay (fun b v hb q => a.k b v q fun z => by
      have := I.stkFree b z
      rcases hb with rfl | hb
      · rw [this] at e; cases e
      · rw [this] at hb; cases hb) (fun b q => by rw [upd_ne (ne2 b _ q)]; exact q) fun b xs q => by rw [upd_ne (ne2 b _ q)]; exact q
end
def KeyF (X : Cx) (A : Around) (f : Value) (C : Value → Int → Prop) : Prop := ∀ (pins : List (Addr × Obj)) (σ : L2.St) (H : Hp) (s : Shared), Inv X pins σ H s → ∀ v k, C v k →
  wpAny (model X.prog X.w) A (call f [v]) (fun u s' => (∃ t, u = .int k t) ∧ KeepF (frs X.stack) s.heap s'.heap ∧ s'.os = s.os ∧ AllBare s'.gens) (fun _ _ => False) s
theorem keyF_of {X : Cx} {k : Nat} {f : Addr} {fd : FuncData} {ps : List Str} {sp : Sp} {R : V → Int → Prop} (F : DL.FnG X.prog X.w X.K X.mg X.base k f fd ps sp) (hr : DL.RoomG k X.A.in1.in1) (hb : Binds X.K fd ps [])
    (hsp : ∀ x key, R x key → sp [x] (fun _ => none) (fun v _ => v = .int key) (fun _ _ _ => False)) : KeyF X X.A.in1.in1 (.ref f) fun v key => ∃ x, RelV x v ∧ R x key := by
  rintro pins σ H s I v key ⟨x, rx, hx⟩
  have q := hsp x key hx
  have e0 : Env0 X.prog X.w X.K X.mg X.base X.A.in1.in1 X.stack s (fun _ => none) := ⟨I.env0.in1.in1.frames, I.env0.mod, fun b o e => ⟨(I.env0.bs b o e).1, rfl⟩, I.env0.bsz, I.env0.funs, fun _ _ => rfl, (fun a o e => nomatch e), I.env0.bare⟩
  have hl := F.len _ _ _ _ q
  refine wpAny_call (codeAny_mono (F.run X.A.in1.in1 X.stack s (fun _ => none) ⟨[v], []⟩ [v] [x] _ _ hr e0 (by have := hb s [v] I.kIn (by simpa using hl); simpa using this) (.cons rx .nil) q) fun rr s' z => ?_)
  match rr, z with
  | .error e, z =>
    obtain ⟨_, _, _, _, _, _, _, _, _, _, _, _, z⟩ := z
    exact z.elim
  | .ok (.ret u), z =>
    obtain ⟨v', H', ho, hg, un, hok, r, rfl⟩ := z
    refine ⟨?_, ⟨fun b o e nf => un.keep b o e rfl nf (by simp), fun b o e hf => un.slot b o e rfl hf (by simp)⟩, ho, hg⟩
    exact r
  | .ok .next, z => exact z.elim
  | .ok .brk, z => exact z.elim
  | .ok .cont, z => exact z.elim
end SrtF
namespace SrtF
open PySem PySem.Spec PyProof.Rows
section
variable {prog : Program} {w : World} {A : Around} {E : Value → Shared → Prop} {s : Shared} {a kS : Addr} {vs : List Value} {kz : List Int} {keys : Array Value} {e e1 : Nat} {P : PySem.Fin → Shared → Prop}
/-- the end of the sort: the list is filled, all else but the store of keys stands -/
theorem srt_tail {st : SortSt} (nk : s.heap.get? kS = some (seqObj "list" keys e)) (na : s.heap.get? a = some (seqObj "list" #[] e1)) (hka : kS ≠ a)
    (hk : IntsAre keys.toList kz) (hlen : kz.length = vs.length) (hZ : vs.length ≤ sizeLine) (hp : (arrOf st).Perm (keys.zip vs.toArray)) (hs : SortedTo (arrOf st) (arrOf st).size) (hfl : failedOf st = none)
    (hst : Stable intKind (arrOf st) (keys.zip vs.toArray))
    (h : ∀ h' out c, (∀ b, b ≠ kS → b ≠ a → h'.get? b = s.heap.get? b) → h'.get? a = some (seqObj "list" out c) → KskOutSt false kz vs out.toList → P (.done (.ret .none)) { s with heap := h' }) :
    wpAny (model prog w) A (ksk_tail a false e1 (.ref kS) st) P E s := by
  have hZ2 := hZ
  rw [sizeLine_eq] at hZ2
  have hsz : keys.size = vs.length := by
    have h1 := hk.length
    rw [Array.length_toList] at h1
    omega
  have hsz2 : (arrOf st).size = vs.length := by rw [hp.size_eq, Array.size_zip, hsz, List.size_toArray, Nat.min_self]
  have hout : ((arrOf st).map (·.2)).size = vs.length := by rw [Array.size_map]; exact hsz2
  have s1 := Heap.SameBut.update s.heap kS (Obj.mapSeq fun _ => (#[] : Array Value))
  have na1 : (s.heap.update kS (Obj.mapSeq fun _ => (#[] : Array Value))).get? a = some (seqObj "list" #[] e1) := (s1.2 a hka.symm).trans na
  have s2 := Heap.SameBut.update (s.heap.update kS (Obj.mapSeq fun _ => (#[] : Array Value))) a (Obj.mapSeq fun _ => (arrOf st).map (·.2))
  obtain ⟨c2, hc2⟩ : ∃ c2, ((s.heap.update kS (Obj.mapSeq fun _ => (#[] : Array Value))).update a (Obj.mapSeq fun _ => (arrOf st).map (·.2))).get? a = some (seqObj "list" ((arrOf st).map (·.2)) c2) :=
    ⟨_, get?_update_seq na1 fun _ => (arrOf st).map (·.2)⟩
  have hO := ksk_outSt (b := false) hk hp hs hst
  unfold ksk_tail
  try dsimp only
  refine wpAny_bind (listUpdate_at nk rfl ?_ (by rw [hsz, sizeLine_eq]; omega) (Nat.zero_le _))
  refine wpAny_bind (wpAny_letGo ?_)
  refine wpAny_bind (seqEpoch_at na1 rfl ?_)
  refine wpAny_bind (listUpdate_at na1 rfl ?_ (Nat.zero_le _) (Nat.le_trans (Nat.le_of_eq hout) (by rw [sizeLine_eq]; omega)))
  rw [hfl]
  simp only [bne_self_eq_false, Bool.false_eq_true, if_false]
  refine wpAny_pure (h _ _ c2 (fun b h1 h2 => (s2.2 b h2).trans (s1.2 b h1)) hc2 ?_)
  exact hO
theorem srt_end (nk : s.heap.get? kS = some (seqObj "list" keys e)) (na : s.heap.get? a = some (seqObj "list" #[] e1)) (hka : kS ≠ a)
    (hk : IntsAre keys.toList kz) (hlen : kz.length = vs.length) (hZ : vs.length ≤ sizeLine)
    (h : ∀ h' out c, (∀ b, b ≠ kS → b ≠ a → h'.get? b = s.heap.get? b) → h'.get? a = some (seqObj "list" out c) → KskOutSt false kz vs out.toList → P (.done (.ret .none)) { s with heap := h' }) :
    wpAny (model prog w) A (ksk_end a false vs.toArray e1 (.ref kS) keys) P E s := by
  have hZ2 := hZ
  rw [sizeLine_eq] at hZ2
  have hsz : keys.size = vs.length := by
    have h1 := hk.length
    rw [Array.length_toList] at h1
    omega
  have hzs : (keys.zip vs.toArray).size = vs.length := by rw [Array.size_zip, hsz, List.size_toArray, Nat.min_self]
  unfold ksk_end
  try dsimp only
  rw [if_neg Bool.false_ne_true]
  by_cases h2 : vs.toArray.size < 2
  · rw [if_pos h2, if_pos h2]
    refine wpAny_bind (wpAny_pure ?_)
    rw [StateT.run_pure]
    refine wpAny_bind (wpAny_pure ?_)
    try dsimp only
    refine srt_tail (st := SortSt.mk' general' (keys.zip vs.toArray) #[] 7 none) nk na hka hk hlen hZ (Array.Perm.refl _) ?_ rfl (Stable.refl _) h
    intro i j hij hj
    have hj2 : j < (keys.zip vs.toArray).size := hj
    rw [hzs] at hj2
    rw [List.size_toArray] at h2
    have : i = j := by omega
    subst this
    exact Int.le_refl _
  · rw [if_neg h2, if_neg h2]
    rw [List.size_toArray] at h2
    rw [ksk_kind hk (by rw [hsz]; omega)]
    refine wpAny_bind (wpAny_pure ?_)
    refine wpAny_bind (wpAny_mono (wpS_sortRunsSt (κ := intKind) (a₀ := keys.zip vs.toArray)
      (st := SortSt.mk' oneType' (keys.zip vs.toArray) #[] 7 none)
      (Q := fun _ st' => (arrOf st').Perm (keys.zip vs.toArray) ∧ failedOf st' = none ∧ SortedTo (arrOf st') (arrOf st').size ∧
        Stable intKind (arrOf st') (keys.zip vs.toArray))
      intKind_oneLt (ksk_keysOfInt (ksk_intKeys hk)) ⟨Array.Perm.refl _, rfl, rfl⟩ rfl (Stable.refl _) (by rw [hzs]; omega)
      fun st' a1 a2 a3 a4 => ⟨a1, a2, by rw [a1.size_eq]; exact sortedTo_of_int a3, a4⟩) ?_ fun _ _ e => e)
    rintro ⟨⟨⟩, st'⟩ s' ⟨rfl, hp, hf, hs, hst⟩
    try dsimp only
    exact srt_tail nk na hka hk hlen hZ hp hs hf hst h
end
section
variable {X : L2.Cx} {pins : List (Addr × Obj)} {σ : L2.St} {H : L2.Hp} {s0 s : Shared} {A : Around} {E : Value → Shared → Prop} {a kS : Addr} {vs : List Value} {kz : List Int} {e1 : Nat} {P : PySem.Fin → Shared → Prop} {f : Value} {C : Value → Int → Prop}
theorem srt_rest (K : KeyF X A f C) (I : L2.Inv X pins σ H s0) (kp : KeepF (L2.frs X.stack) s0.heap s.heap) (ho : s.os = s0.os) (hg : AllBare s.gens)
    (nk : s.heap.get? kS = some (seqObj "list" #[] 0)) (na : s.heap.get? a = some (seqObj "list" #[] e1)) (hka : kS ≠ a) (nek : ∀ b o, s0.heap.get? b = some o → b ≠ kS) (nea : ∀ b o, s0.heap.get? b = some o → b ≠ a)
    (hlen : kz.length = vs.length) (hZ : vs.length ≤ sizeLine) (hC : ∀ (i : Nat) (v : Value) (k : Int), vs[i]? = some v → kz[i]? = some k → C v k)
    (h : ∀ s' out c, KeepF (L2.frs X.stack) s0.heap s'.heap → s'.os = s0.os → AllBare s'.gens → s'.heap.get? a = some (seqObj "list" out c) → KskOutSt false kz vs out.toList → P (.done (.ret .none)) s') :
    wpAny (model X.prog X.w) A (ksk_rest a f false vs.toArray e1 (.ref kS)) P E s := by
  have hZ2 := hZ
  rw [sizeLine_eq] at hZ2
  have hfr : ∀ b ∈ L2.frs X.stack, ∃ o, s0.heap.get? b = some o := fun b hb => by
    obtain ⟨_, o, e, _⟩ := I.stack.mem hb
    exact ⟨o, e⟩
  unfold ksk_rest
  refine wpAny_bind (wpAny_rule ?_)
  first
    | rw [List.forIn_toArray]
    | (rw [← Array.forIn_toList]; simp only [List.toList_toArray])
    | rw [← Array.forIn_toList]
  refine wpAny_bind (ksk_fold (fun i s' => ∃ kA e, KeepF (L2.frs X.stack) s0.heap s'.heap ∧ s'.os = s0.os ∧ AllBare s'.gens ∧ s'.heap.get? kS = some (seqObj "list" kA e) ∧ s'.heap.get? a = some (seqObj "list" #[] e1) ∧ IntsAre kA.toList (kz.take i)) vs 0 s
    ⟨#[], 0, kp, ho, hg, nk, na, by simpa using IntsAre.nil⟩ ?step ?done)
  case step =>
    rintro j x s' hx ⟨kA, e, kp', ho', hg', nk', na', hk⟩
    simp only [Nat.zero_add] at hk ⊢
    have hj : j < vs.length := (List.getElem?_eq_some_iff.mp hx).1
    obtain ⟨k, hkj⟩ : ∃ k, kz[j]? = some k := ⟨_, List.getElem?_eq_getElem (by omega)⟩
    have hz : kA.size ≤ vs.length := by
      have h1 := hk.length
      rw [Array.length_toList, List.length_take] at h1
      omega
    have I' := kp'.inv I ho' hg'
    refine wpAny_bind (wpAny_attempt (wpAny_mono (K pins σ H s' I' x k (hC j x k hx hkj)) (fun v s'' he => ?_) fun _ _ hF => hF.elim))
    obtain ⟨⟨t2, rfl⟩, kp2, ho2, hg2⟩ := he
    try dsimp only
    have nk2 := kp2.k kS _ nk' fun z => nek kS _ (hfr _ z).choose_spec rfl
    have na2 := kp2.k a _ na' fun z => nea a _ (hfr _ z).choose_spec rfl
    have s1 := Heap.SameBut.update s''.heap kS (Obj.mapSeq (·.push (.int k t2)))
    obtain ⟨c2, hc2⟩ : ∃ c2, (s''.heap.update kS (Obj.mapSeq (·.push (.int k t2)))).get? kS = some (seqObj "list" (kA.push (.int k t2)) c2) := ⟨_, get?_update_seq nk2 (·.push (.int k t2))⟩
    have ek : kz.take (j + 1) = kz.take j ++ [k] := by rw [List.take_add_one, hkj]; simp
    have ea : (kA.push (Value.int k t2)).toList = kA.toList ++ [Value.int k t2] := by simp
    refine wpAny_bind (listUpdate_at nk2 rfl ?_ (by rw [sizeLine_eq]; omega) (Nat.le_trans (Nat.le_of_eq (Array.size_push ..)) (by rw [sizeLine_eq]; omega)))
    have kp3 := kp'.trans kp2
    refine wpAny_pure ⟨rfl, kA.push (.int k t2), c2, ⟨fun b o q n => (s1.2 b (nek b o q)).trans (kp3.k b o q n), fun b o q n => ?_⟩, ho2.trans ho', hg2, hc2, (s1.2 a hka.symm).trans na2, by rw [ea, ek]; exact ksk_snoc hk⟩
    obtain ⟨sl, q2⟩ := kp3.f b o q n
    exact ⟨sl, (s1.2 b (nek b o q)).trans q2⟩
  case done =>
    rintro s' ⟨kA, e, kp', ho', hg', nk', na', hk⟩
    have hk' : IntsAre kA.toList kz := by
      have e3 : kz.take (0 + vs.length) = kz := List.take_of_length_le (by omega)
      rw [e3] at hk
      exact hk
    try dsimp only
    refine wpAny_bind (listItems_at nk' rfl ?_)
    refine srt_end nk' na' hka hk' hlen hZ fun h3 out c hkeep ha3 k3 => h _ out c ⟨fun b o q n => (hkeep b (nek b o q) (nea b o q)).trans (kp'.k b o q n), fun b o q n => ?_⟩ ho' hg' ha3 k3
    obtain ⟨sl, q2⟩ := kp'.f b o q n
    exact ⟨sl, (hkeep b (nek b o q) (nea b o q)).trans q2⟩
end
end SrtF
namespace SrtF
open PySem PySem.Spec PyProof.Rows
section
variable {X : L2.Cx} {pins : List (Addr × Obj)} {σ : L2.St} {H : L2.Hp} {s0 s : Shared} {vs : List Value} {kz : List Int} {Q : Value → Shared → Prop} {f : Value} {C : Value → Int → Prop} {kw : List (Str × Value)}
/-- the sort of a new list, from the state in which the items have been collected -/
theorem srt_list (K : KeyF X X.A.in1.in1 f C) (I : L2.Inv X pins σ H s0) (kp : KeepF (L2.frs X.stack) s0.heap s.heap) (hge : ∀ b o, s0.heap.get? b = some o → b < s.heap.objs.size) (ho : s.os = s0.os) (hg : AllBare s.gens)
    (hlen : kz.length = vs.length) (hZ : vs.length ≤ sizeLine) (hC : ∀ (i : Nat) (v : Value) (k : Int), vs[i]? = some v → kz[i]? = some k → C v k)
    (ha2 : ∀ x, argsOk "list.sort" ⟨[.ref x], kw⟩) (ht : ∀ x, Builtin.«list.sort» ⟨[.ref x], kw⟩ = ksk_tree x f false)
    (h : ∀ s' out c, KeepF (L2.frs X.stack) s0.heap s'.heap → s'.os = s0.os → AllBare s'.gens → s'.heap.get? s.heap.objs.size = some (seqObj "list" out c) → KskOutSt false kz vs out.toList → Q (.ref s.heap.objs.size) s') :
    wpAny (model X.prog X.w) X.A.in1 (do
      let l ← newList vs
      let _ ← holding [l] (call (.builtin "list.sort") [l] kw)
      ret l) (fun fin s' => ∃ v, fin = .done (.ret v) ∧ Q v s') X.xe s := by
  have hZ2 := hZ
  rw [sizeLine_eq] at hZ2
  refine wpAny_bind (wpAny_newList ?_ (by rw [sizeLine_eq]; omega))
  have hoL : (s.heap.push (seqObj "list" vs.toArray 0)).get? s.heap.objs.size = some (seqObj "list" vs.toArray 0) := Heap.get?_push_size _ rfl
  show wpAny _ _ _ _ _ { s with heap := s.heap.push (seqObj "list" vs.toArray 0) }
  refine wpAny_bind (wpAny_holding (wpAny_call_entry_kw slot_list_sort ⟨_, hoL, rfl⟩ entry_list_sort ?_ (ha2 _)))
  rw [ht]
  obtain ⟨a, ea⟩ : ∃ a, a = s.heap.objs.size := ⟨_, rfl⟩
  have hge' : ∀ b o, s0.heap.get? b = some o → b < a := by rw [ea]; exact hge
  rw [← ea] at hoL h ⊢
  obtain ⟨h1, eh1⟩ : ∃ h1, h1 = s.heap.push (seqObj "list" vs.toArray 0) := ⟨_, rfl⟩
  have hs1 : h1.objs.size = a + 1 := by rw [eh1, size_push', ea]
  have kp1 : ∀ b o, s.heap.get? b = some o → h1.get? b = some o := fun b o q => by rw [eh1]; exact Heap.get?_push_of_some _ q
  rw [← eh1] at hoL ⊢
  have nea : ∀ b o, s.heap.get? b = some o → b ≠ a := fun b o q => by rw [ea]; exact Nat.ne_of_lt (Heap.lt_size q)
  have s2 := Heap.SameBut.update h1 a (Obj.mapSeq fun _ => (#[] : Array Value))
  obtain ⟨e1, ho1⟩ : ∃ e1, (h1.update a (Obj.mapSeq fun _ => (#[] : Array Value))).get? a = some (seqObj "list" #[] e1) := ⟨_, get?_update_seq hoL fun _ => #[]⟩
  obtain ⟨h2, eh2⟩ : ∃ h2, h2 = h1.update a (Obj.mapSeq fun _ => (#[] : Array Value)) := ⟨_, rfl⟩
  have hs2 : h2.objs.size = a + 1 := by rw [eh2, Heap.size_update, hs1]
  have kp2 : ∀ b o, s.heap.get? b = some o → h2.get? b = some o := fun b o q => by rw [eh2]; exact (s2.2 b (nea b o q)).trans (kp1 b o q)
  unfold ksk_tree
  refine wpAny_bind (listItems_at hoL rfl ?_)
  refine wpAny_bind (listUpdate_at hoL rfl ?_ (by rw [List.size_toArray, sizeLine_eq]; omega) (Nat.zero_le _))
  refine wpAny_bind (seqEpoch_at ho1 rfl ?_)
  refine wpAny_bind (wpAny_newTuple ?_ (by show vs.length ≤ _; rw [sizeLine_eq]; omega))
  refine wpAny_bind (wpAny_newList ?_ (Nat.zero_le _))
  refine wpAny_holding ?_
  rw [← eh2] at ho1 ⊢
  have kp3 : ∀ b o, h2.get? b = some o → ((h2.push (seqObj "tuple" vs.toArray 0)).push (seqObj "list" #[] 0)).get? b = some o := fun b o q => Heap.get?_push_of_some _ (Heap.get?_push_of_some _ q)
  have hkS : (h2.push (seqObj "tuple" vs.toArray 0)).objs.size = a + 2 := by rw [size_push', hs2]
  refine srt_rest (s := { s with heap := (h2.push (seqObj "tuple" vs.toArray 0)).push (seqObj "list" #[] 0) }) (kS := (h2.push (seqObj "tuple" vs.toArray 0)).objs.size) K I (kp.trans (KeepF.of fun b o q => kp3 b o (kp2 b o q))) ho hg (Heap.get?_push_size _ rfl) (kp3 a _ ho1) (by rw [hkS]; exact Nat.ne_of_gt (by omega)) (by rw [hkS]; exact fun b o e => Nat.ne_of_lt (Nat.lt_trans (hge' b o e) (by omega))) (fun b o e => Nat.ne_of_lt (hge' b o e)) hlen hZ hC fun s' out c k1 k2 k3 k4 k5 => ?_
  exact ⟨_, rfl, wpAny_pure ⟨_, rfl, h s' out c k1 k2 k3 k4 k5⟩⟩
end
end SrtF
namespace SrtF
open PySem PySem.Spec PyProof.Rows L2
section
variable {X : L2.Cx}
/-- what is sought of sorted(xs, key=f): xs a list, or a dict's keys -/
def ItemsAt (K : PySem.W.Frag) (H : Hp) (a : Addr) (xs : List V) : Prop := SqL K H a xs ∨ ∃ (kvs : List (Key × V)) (ks : List Str), Rd H a (.dK kvs) ∧ kvs.map (·.1) = ks.map Sum.inr ∧ xs = ks.map V.str
def rSortF (K : PySem.W.Frag) (f : Addr) (R : V → Int → Prop) : List V → List V → Hp → VK → Prop := fun vs zs H Q => ∃ (a : Addr) (xs : List V) (kz : List Int), vs = [V.ref a] ∧ zs = [V.ref f] ∧ ItemsAt K H a xs ∧ kz.length = xs.length ∧ xs.length ≤ 10000 ∧
  (∀ (i : Nat) (x : V) (k : Int), xs[i]? = some x → kz[i]? = some k → R x k) ∧
  ∀ (ps : List (Int × V)) (p : Addr), ps.Perm (kz.zip xs) → ps.Pairwise (fun p q => p.1 ≤ q.1) → H p = none → Q (.ref p) (upd H p (.lst (ps.map Prod.snd)))
theorem perm_lift {α β : Type} {R : β → α → Prop} {l1 l2 : List α} (p : l1.Perm l2) : ∀ {m2 : List β}, Paired R m2 l2 → ∃ m1, Paired R m1 l1 ∧ m1.Perm m2 := by
  induction p with
  | nil => intro m2 h; cases h; exact ⟨[], .nil, .nil⟩
  | cons x _ ih =>
    intro m2 h
    cases h with
    | cons r t =>
      obtain ⟨m1, h1, h2⟩ := ih t
      exact ⟨_ :: m1, .cons r h1, h2.cons _⟩
  | swap x y l =>
    intro m2 h
    cases h with
    | cons r t =>
      cases t with
      | cons r2 t2 => exact ⟨_ :: _ :: _, .cons r2 (.cons r t2), .swap ..⟩
  | trans _ _ ih1 ih2 =>
    intro m2 h
    obtain ⟨m1, h1, h2⟩ := ih2 h
    obtain ⟨m0, h3, h4⟩ := ih1 h1
    exact ⟨m0, h3, h4.trans h2⟩
def KR (p : Int × V) (q : Int × Value) : Prop := p.1 = q.1 ∧ RelV p.2 q.2
theorem kr_zip : ∀ {kz : List Int} {xs : List V} {us : List Value}, Vals xs us → Paired KR (kz.zip xs) (kz.zip us)
  | [], _, _, _ => .nil
  | k :: kz, _, _, .nil => .nil
  | k :: kz, _, _, .cons r t => .cons ⟨rfl, r⟩ (kr_zip t)
theorem kr_snd : ∀ {ps : List (Int × V)} {qs : List (Int × Value)}, Paired KR ps qs → Vals (ps.map Prod.snd) (qs.map Prod.snd)
  | _, _, .nil => .nil
  | _, _, .cons r t => .cons r.2 (kr_snd t)
theorem kr_pw : ∀ {ps : List (Int × V)} {qs : List (Int × Value)}, Paired KR ps qs → qs.Pairwise (fun p q => p.1 ≤ q.1) → ps.Pairwise (fun p q => p.1 ≤ q.1)
  | _, _, .nil, _ => .nil
  | _, _, .cons r t, h => by
    have h' := List.pairwise_cons.mp h
    refine List.pairwise_cons.mpr ⟨fun x hx => ?_, kr_pw t h'.2⟩
    have : ∀ {ps : List (Int × V)} {qs : List (Int × Value)}, Paired KR ps qs → ∀ x ∈ ps, ∃ y ∈ qs, x.1 = y.1 := by
      intro ps qs hp
      induction hp with
      | nil => exact fun _ h => nomatch h
      | cons r t ih =>
        intro x hx
        rcases List.mem_cons.mp hx with rfl | hx
        · exact ⟨_, List.mem_cons_self .., r.1⟩
        · obtain ⟨y, h1, h2⟩ := ih x hx
          exact ⟨y, List.mem_cons_of_mem _ h1, h2⟩
    obtain ⟨y, h1, h2⟩ := this t x hx
    rw [r.1, h2]
    exact h'.1 y h1
theorem srt_fin {pins : List (Addr × Obj)} {σ : L2.St} {H : Hp} {s s' : Shared} {xs : List V} {us : List Value} {kz : List Int} {out : Array Value} {c : Nat} {p : Addr} {Q : VK} (I : L2.Inv X pins σ H s) (kp : KeepF (frs X.stack) s.heap s'.heap) (ho : s'.os = s.os) (hg : AllBare s'.gens) (hp : ∀ b u, s.heap.get? b = some u → b ≠ p)
    (ha : s'.heap.get? p = some (seqObj "list" out c)) (rv : Vals xs us) (hk : KskOutSt false kz us out.toList) (hlen : kz.length = xs.length) (hz : xs.length ≤ 10000)
    (q : ∀ (ps : List (Int × V)) (p : Addr), ps.Perm (kz.zip xs) → ps.Pairwise (fun p q => p.1 ≤ q.1) → H p = none → Q (.ref p) (upd H p (.lst (ps.map Prod.snd)))) : EP X pins σ Q (.ref p) s' := by
  obtain ⟨qs, h1, h2, h3, _⟩ := hk
  obtain ⟨ps, g1, g2⟩ := perm_lift h1 (kr_zip rv)
  have hv := kr_snd g1
  rw [← h2] at hv
  refine ⟨.ref p, _, kp.laid I ho hg hp (o := .lst (ps.map Prod.snd)) ⟨?_, out.toList, c, hv, by rw [Array.toArray_toList]; exact ha⟩, rfl, q ps p g2 (kr_pw g1 (by simpa using h3)) (fresh_of I hp)⟩
  rw [List.length_map, g2.length_eq, List.length_zip, sizeLine_eq]
  omega
theorem cr_sortedF {f : Addr} {R : V → Int → Prop} (K : KeyF X X.A.in1.in1 (.ref f) fun v key => ∃ x, RelV x v ∧ R x key) (hcalm : X.calm = true) : CallRK X (.builtin "sorted") [Str.ofString "key"] (rSortF X.K f R) := by
  intro pins s σ H vs zs us ws Q I r rz h
  obtain ⟨a, xs, kz, rfl, rfl, hit, hlen, hl4, hR, q⟩ := h
  obtain rfl := Vals.ref1 r
  obtain rfl := Vals.ref1 rz
  have hRv : ∀ {its : List Value}, Vals xs its → ∀ (i : Nat) (v : Value) (k : Int), its[i]? = some v → kz[i]? = some k → ∃ x, RelV x v ∧ R x k := fun {its} rv i v k e1 e2 => by
    have hi : i < xs.length := by rw [rv.length]; exact (List.getElem?_eq_some_iff.mp e1).1
    obtain ⟨u, e3, r3⟩ := rv.get (List.getElem?_eq_getElem hi)
    rw [e1] at e3
    cases e3
    exact ⟨_, r3, hR i _ k (List.getElem?_eq_getElem hi) e2⟩
  refine call_function_entry_kw kind_sorted plain_sorted entry_sorted (ksk_s1 _ _) ?_
  unfold Builtin.«sorted»
  refine wpAny_bind (m := checkCount "sorted" 1 1 _) (wpAny_pure ?_)
  rcases hit with hs | ⟨kvs, ks, hd, hks, rfl⟩
  · obtain ⟨its, rv, hl, hz⟩ := I.list hs
    have hz' : its.length ≤ sizeLine := by rw [← rv.length]; exact hz
    refine wpAny_bind (collect_list hl.isList ?_ hz')
    have keep : ∀ b o, s.heap.get? b = some o → ((s.heap.push (seqObj "list" #[] 0)).update s.heap.objs.size (Obj.mapSeq (· ++ its.toArray))).get? b = some o := fun b o q => by
      have hlt : b < s.heap.objs.size := Heap.lt_size q
      rw [Heap.get?_update_ne _ _ _ _ (Nat.ne_of_lt hlt), Heap.get?_push_ne _ _ _ (Nat.ne_of_lt hlt)]
      exact q
    have hsz : ((s.heap.push (seqObj "list" #[] 0)).update s.heap.objs.size (Obj.mapSeq (· ++ its.toArray))).objs.size = s.heap.objs.size + 1 := by rw [Heap.size_update, size_push']
    refine srt_list (s := { s with heap := (s.heap.push (seqObj "list" #[] 0)).update s.heap.objs.size (Obj.mapSeq (· ++ its.toArray)) }) K I (KeepF.of keep) (fun b o e => by rw [hsz]; exact Nat.lt_succ_of_lt (Heap.lt_size e)) rfl I.bare (by rw [hlen, rv.length]) hz' (hRv rv) (fun x => ksk_l1 _ _) (fun x => ksk_t1 f x) fun s' out c k1 k2 k3 k4 k5 => ?_
    exact srt_fin I k1 k2 k3 (fun b o e => by rw [hsz]; exact Nat.ne_of_lt (Nat.lt_succ_of_lt (Heap.lt_size e))) k4 rv k5 hlen hl4 q
  · obtain ⟨z, lo, vs, rel, dd⟩ := dk_rd I.hok hd
    obtain ⟨ep, hat⟩ := dd.dictAt
    have hkeys : vs.map (·.1) = ks.map Sum.inr := rel.keys.symm.trans hks
    have hl : vs.length = ks.length := by
      have e := congrArg List.length hkeys
      rw [List.length_map, List.length_map] at e
      exact e
    rw [List.length_map] at hl4 hlen
    have h16 : vs.length ≤ sizeLine := by rw [hl, sizeLine_eq]; omega
    refine wpAny_bind (PySem.W.kdu_collect (A := X.A.in1) (PySem.W.kdl_dict (knd := mixKind X.prog X.w) (kvs := vs) (ep := ep) lo) (I.ok.hd hcalm) hat h16 fun h' tk acc hk hacc => ?_)
    have hal : acc.toList.length = ks.length := by rw [Array.length_toList, hacc.1, hl]
    have hS : StrsAre acc.toList ks := L2.strs_at hal fun j v e => by
      obtain ⟨k, x, e1, e2⟩ := hacc.2 j v (by rw [← Array.getElem?_toList]; exact e)
      have e3 : (vs.map (·.1))[j]? = some k := by rw [List.getElem?_map, e1]; all_goals rfl
      rw [hkeys, List.getElem?_map] at e3
      cases e4 : ks[j]? with
      | none => rw [e4] at e3; cases e3
      | some y =>
        rw [e4] at e3
        have e5 : Sum.inr y = k := Option.some.inj e3
        subst e5
        obtain ⟨t, ev⟩ := Value.isStrOf_shape (x := y) (v := v) e2
        exact ⟨y, t, rfl, ev⟩
    have rv := vals_of_strs hS
    have hge : ∀ b o, s.heap.get? b = some o → b < h'.objs.size := fun b o e => Heap.lt_size (hk b o e)
    refine srt_list (s := { s with heap := h', toks := tk }) K I (KeepF.of hk) hge rfl I.bare (by rw [hlen, hal]) (by rw [hal, sizeLine_eq]; omega) (hRv rv) (fun x => ksk_l1 _ _) (fun x => ksk_t1 f x) fun s' out c k1 k2 k3 k4 k5 => ?_
    exact srt_fin I k1 k2 k3 (fun b o e => Nat.ne_of_lt (hge b o e)) k4 rv k5 (by rw [List.length_map]; exact hlen) (by rw [List.length_map]; exact hl4) q
end
end SrtF
namespace DL
open PySem L2
def keysOf (g : DF) : List Str → Option (List Int)
  | [] => some []
  | x :: l => match g [] [.str x] with
    | .ok (.int k) [] => (keysOf g l).map (k :: ·)
    | _ => none
def insK (p : Int × Str) : List (Int × Str) → List (Int × Str)
  | [] => [p]
  | q :: r => if p.1 ≤ q.1 then p :: q :: r else q :: insK p r
def srtK (l : List (Int × Str)) : List (Int × Str) := l.foldr insK []
def strsX (S : Sto) (d : Dv) : Option (List Str) := match (asL S d).bind strsD with
  | some ws => some ws
  | none => (asD S d).bind strKs
def srtKeyK (g : DF) (l : List Dv) (S : Sto) : Res (List Dv) := match l with
  | [d] => (match strsX S d with
    | some ws => (match keysOf g ws with
      | some kz => if ws.length ≤ 10000 ∧ kz.Nodup then .ok ((srtK (kz.zip ws)).map fun p => Dv.str p.2) S else .no
      | none => .no)
    | none => .no)
  | _ => .no
def fSrtKey (g : DF) (fa : DA) : DL := fun e S => bnd (fa e S) (srtKeyK g)
theorem insK_perm (p : Int × Str) : ∀ l, (insK p l).Perm (p :: l)
  | [] => .refl _
  | q :: r => by
    unfold insK
    split
    · exact .refl _
    · exact ((insK_perm p r).cons q).trans (.swap ..)
theorem srtK_perm : ∀ l, (srtK l).Perm l
  | [] => .refl _
  | p :: l => (insK_perm p (srtK l)).trans ((srtK_perm l).cons p)
theorem insK_pw (p : Int × Str) : ∀ {l}, l.Pairwise (fun a b : Int × Str => a.1 ≤ b.1) → (insK p l).Pairwise (fun a b : Int × Str => a.1 ≤ b.1)
  | [], _ => List.pairwise_cons.mpr ⟨(fun _ h => nomatch h), .nil⟩
  | q :: r, h => by
    have h' := List.pairwise_cons.mp h
    unfold insK
    split
    · rename_i hpq
      exact List.pairwise_cons.mpr ⟨fun x hx => by
        rcases List.mem_cons.mp hx with rfl | hx
        · exact hpq
        · exact Int.le_trans hpq (h'.1 x hx), h⟩
    · rename_i hpq
      exact List.pairwise_cons.mpr ⟨fun x hx => by
        rcases List.mem_cons.mp ((insK_perm p r).mem_iff.mp hx) with rfl | hx
        · omega
        · exact h'.1 x hx, insK_pw p h'.2⟩
theorem srtK_pw : ∀ l, (srtK l).Pairwise (fun a b : Int × Str => a.1 ≤ b.1)
  | [] => .nil
  | p :: l => insK_pw p (srtK_pw l)
theorem sorted_uniq {α : Type} : ∀ {l m : List (Int × α)}, l.Perm m → l.Pairwise (fun a b => a.1 ≤ b.1) → m.Pairwise (fun a b => a.1 ≤ b.1) → (l.map Prod.fst).Nodup → l = m
  | [], m, p, _, _, _ => by rw [List.nil_perm.mp p]
  | x :: l, [], p, _, _, _ => absurd p.length_eq (by simp)
  | x :: l, y :: m, p, h1, h2, hn => by
    have h1' := List.pairwise_cons.mp h1
    have h2' := List.pairwise_cons.mp h2
    rw [List.map_cons] at hn
    have hn' := List.nodup_cons.mp hn
    have hxy : x = y := by
      have hx : x ∈ y :: m := p.mem_iff.mp List.mem_cons_self
      have hy : y ∈ x :: l := p.mem_iff.mpr List.mem_cons_self
      rcases List.mem_cons.mp hx with h | hx
      · exact h
      rcases List.mem_cons.mp hy with h | hy
      · exact h.symm
      have a := h2'.1 x hx
      have b := h1'.1 y hy
      have e : y.1 = x.1 := by omega
      exact (hn'.1 (List.mem_map.mpr ⟨y, hy, e⟩)).elim
    subst hxy
    rw [sorted_uniq ((List.perm_cons x).mp p) h1'.2 h2'.2 hn'.2]
theorem keysOf_len {g : DF} : ∀ {ws : List Str} {kz : List Int}, keysOf g ws = some kz → kz.length = ws.length
  | [], _, h => by cases h; rfl
  | x :: l, kz, h => by
    unfold keysOf at h
    split at h
    · obtain ⟨m, hm, rfl⟩ := map_ok h
      rw [List.length_cons, List.length_cons, keysOf_len hm]
    · cases h
theorem keysOf_at {g : DF} : ∀ {ws : List Str} {kz : List Int}, keysOf g ws = some kz → ∀ (i : Nat) (x : Str) (k : Int), ws[i]? = some x → kz[i]? = some k → g [] [.str x] = .ok (.int k) []
  | [], _, h, i, x, k, e, _ => by simp at e
  | y :: l, kz, h, i, x, k, e1, e2 => by
    unfold keysOf at h
    split at h
    · rename_i k' hk
      obtain ⟨m, hm, rfl⟩ := map_ok h
      cases i with
      | zero => simp at e1 e2; subst e1 e2; exact hk
      | succ i => exact keysOf_at hm i x k (by simpa using e1) (by simpa using e2)
    · cases h
theorem sr_nil {K : PySem.W.Frag} : SR K (fun _ => False) [] (fun _ => none) [] := ⟨rfl, List.nodup_nil, (fun _ h => nomatch h), (fun _ h => h.elim), fun k a o e _ => by simp at e⟩
theorem vs_map {ps : List (Int × V)} {ws : List Str} {kz : List Int} (h : ps.Perm (kz.zip (ws.map V.str))) : ∃ qs : List (Int × Str), ps = qs.map (fun q => (q.1, V.str q.2)) ∧ qs.Perm (kz.zip ws) := by
  have e : kz.zip (ws.map V.str) = (kz.zip ws).map (fun q => (q.1, V.str q.2)) := by rw [List.zip_map_right]; rfl
  rw [e] at h
  obtain ⟨qs, h1, h2⟩ := SrtF.perm_lift (R := fun (q : Int × Str) (p : Int × V) => p = (q.1, V.str q.2)) h (m2 := kz.zip ws) (by
    generalize kz.zip ws = l
    induction l with
    | nil => exact .nil
    | cons a l ih => exact .cons rfl ih)
  refine ⟨qs, ?_, h2⟩
  clear h2 h e
  induction h1 with
  | nil => rfl
  | cons r t ih => rw [r, ih]; rfl
theorem qf_srtKey {X : Cx} {W : WX} {k : Nat} {x : Str} {g : DF} {e : Expr} {p kp kpos pos : Pos} {fa : DA} (F : FD X.prog X.w X.K X.mg X.base k x g) (hr : RoomG (k + 2) X.A) (hm : X.mg "sorted" = none) (ha : QXs X W [e] fa) (hc : X.calm = true := by rfl) (hg : Gl X "sorted" := by rfl) (hgx : Gl X x := by rfl) (hd : (x == ("__debug__" : Str)) = false := by decide)
    (he : backTo pos (starEach [e] X.env) = (false, eval e X.env) :: backTo pos (starEach [] X.env) := by rfl)
    (hpl : (backTo pos (starEach [e] X.env)).any (·.1) = false := by rfl)
    (hall : (backToKw pos (keywordEach [⟨some "key", .Name x kp, kpos⟩] X.env)).all (·.1.isSome) = true := by rfl) (hnone : (backToKw pos (keywordEach [⟨some "key", .Name x kp, kpos⟩] X.env)).any (·.1.isNone) = false := by rfl) (hks : (backToKw pos (keywordEach [⟨some "key", .Name x kp, kpos⟩] X.env)).filterMap (·.1) = [Str.ofString "key"] := by rfl) :
    QF X W (.Call (.Name "sorted" p) [e] [⟨some "key", .Name x kp, kpos⟩] pos) (fSrtKey g fa) := by
  obtain ⟨f, fd, ps, F, hmx, _, _, hb⟩ := F
  have hK := SrtF.keyF_of (X := X) (R := fun v key => ∃ w, v = .str w ∧ g [] [.str w] = .ok (.int key) []) F hr.in1.in1 hb fun v key ⟨w, hw, hgw⟩ => by
    subst hw
    refine ⟨fun _ => False, [], [], [.str w], sr_nil, .cons (.str w) .nil, ?_⟩
    rw [hgw]
    intro v H' io' _ _ r
    cases r
    rfl
  refine pe_imp (pe_callBK (SrtF.cr_sortedF hK hc) hg hm (by decide +kernel) ha (pk_cons (pe_glob hgx hmx (v := .ref f) rfl hd) pk_nil) (by decide) (by decide) he hpl hall hnone hks) fun gs H Q q => ?_
  obtain ⟨L0, io0, H0, L, io, E, S, fr, q⟩ := q
  refine FinF.bind (R := VXs X.K) (k := srtKeyK g) fr q fun L1 io1 H1 S1 l vs s1 fr1 rvs q => ?_
  unfold srtKeyK at q
  split at q
  · rename_i d
    cases h : strsX S1 d with
    | none => rw [h] at q; exact q.elim
    | some ws =>
      rw [h] at q
      simp only at q
      cases h2 : keysOf g ws with
      | none => rw [h2] at q; exact q.elim
      | some kz =>
        rw [h2] at q
        simp only at q
        split at q
        · rename_i hl
          cases rvs with
          | cons r t =>
            cases t
            rename_i v
            have hit : ∃ a, v = .ref a ∧ SrtF.ItemsAt X.K H1 a (ws.map V.str) := by
              unfold strsX at h
              cases h3 : (asL S1 d).bind strsD with
              | some ws' =>
                rw [h3] at h
                cases h
                cases h4 : asL S1 d with
                | none => rw [h4] at h3; cases h3
                | some m =>
                  rw [h4] at h3
                  obtain ⟨a, xs, rfl, hs, t⟩ := asL_x fr1.st r h4
                  have hx := strsD_ok t h3
                  subst hx
                  exact ⟨a, rfl, .inl hs⟩
              | none =>
                rw [h3] at h
                simp only at h
                obtain ⟨m, hm4, hks4⟩ := Option.bind_eq_some_iff.mp h
                obtain ⟨a, kvs, rfl, e1, e2⟩ := asD_x fr1.st r hm4
                exact ⟨a, rfl, .inr ⟨kvs, ws, e1, strKs_ok e2 hks4, rfl⟩⟩
            obtain ⟨a, rfl, hit⟩ := hit
            refine ⟨a, ws.map V.str, kz, rfl, rfl, hit, by rw [List.length_map]; exact keysOf_len h2, by rw [List.length_map]; exact hl.1, fun i v key e1 e2 => ?_, fun ps p hp hs hn => ?_⟩
            · rw [List.getElem?_map] at e1
              cases e3 : ws[i]? with
              | none => rw [e3] at e1; cases e1
              | some w =>
                rw [e3] at e1
                cases e1
                exact ⟨w, rfl, keysOf_at h2 i w key e3 e2⟩
            · obtain ⟨qs, rfl, hq⟩ := vs_map hp
              have hs' : qs.Pairwise (fun a b : Int × Str => a.1 ≤ b.1) := by
                rw [List.pairwise_map] at hs
                exact hs
              have hnd : (qs.map Prod.fst).Nodup := by
                have := (hq.map Prod.fst).nodup_iff.mpr
                refine this ?_
                rw [List.map_fst_zip (by rw [keysOf_len h2]; exact Nat.le_refl _)]
                exact hl.2
              have eq1 : qs = srtK (kz.zip ws) := sorted_uniq (hq.trans (srtK_perm _).symm) hs' (srtK_pw _) hnd
              subst eq1
              have ev : ((srtK (kz.zip ws)).map fun q => (q.1, V.str q.2)).map Prod.snd = ((srtK (kz.zip ws)).map Prod.snd).map V.str := by rw [List.map_map, List.map_map]; rfl
              rw [ev]
              have ed : ((srtK (kz.zip ws)).map fun p => Dv.str p.2) = ((srtK (kz.zip ws)).map Prod.snd).map Dv.str := by rw [List.map_map]; rfl
              rw [ed] at q
              exact q _ _ (Ly L1 p) io1 (Stp.newV hn) (fr1.st.newV hn) ⟨p, _, rfl, hn, .inr rfl, fun z => fr1.st.dom p (fr1.st.sub p z) hn, upd_same, vrs_strs _⟩
        · exact q.elim
  · exact q.elim
end DL
namespace DL
open PySem L2
def fmtK (d : Dv) (S : Sto) : Res Dv := match d with
  | .str y => if y.length ≤ sizeLine then .ok (.str y) S else .no
  | .int i => if i.natAbs.log2 < 1920 then .ok (.str (toString i)) S else .no
  | _ => .no
def eFmt (f : DE) : DE := fun e S => bnd (f e S) fmtK
@[simp] theorem ev_fmt (f : DE) (e : Env) (S : Sto) : eFmt f e S = bnd (f e S) fmtK := rfl
def jsK (acc : Str) (k : Str → Env → Sto → Res Dv) (e : Env) (d : Dv) (S : Sto) : Res Dv := match d with
  | .str y => if (acc ++ y).length ≤ sizeLine then k (acc ++ y) e S else .no
  | _ => .no
def jsR : List DE → Str → Env → Sto → Res Dv
  | [], acc, _, S => .ok (.str acc) S
  | f :: fs, acc, e, S => bnd (f e S) (jsK acc (jsR fs) e)
def eJoi (fs : List DE) : DE := jsR fs Str.empty
@[simp] theorem ev_joi (fs : List DE) (e : Env) (S : Sto) : eJoi fs e S = jsR fs Str.empty e S := rfl
@[simp] theorem ev_js0 (acc : Str) (e : Env) (S : Sto) : jsR [] acc e S = .ok (.str acc) S := rfl
@[simp] theorem ev_js1 (f : DE) (fs : List DE) (acc : Str) (e : Env) (S : Sto) : jsR (f :: fs) acc e S = bnd (f e S) (jsK acc (jsR fs) e) := rfl
end DL
namespace DL
open PySem L2
theorem call_int2 {X : Cx} : CallR X (.type "int") (fun xs H Q => ((∃ i, xs = [.int i] ∧ Q (.int i) H) ∨ ∃ k, xs = [.bl k] ∧ Q (.int (if k then 1 else 0)) H) ∨ ∃ a n, xs = [.str a] ∧ PySem.intText? a = some n ∧ a.length ≤ 640 ∧ Q (.int n) H) := by
  intro pins s σ H xs us Q I r h
  rcases h with h | h
  · exact call_int1 pins s σ H xs us Q I r h
  · exact call_int_str pins s σ H xs us Q I r h
def intD2 (S : Sto) : List Dv → Option (Dv × Sto)
  | [.int i] => some (.int i, S)
  | [.bl b] => some (.int (if b then 1 else 0), S)
  | [.str x] => match PySem.intText? x with
    | some n => if x.length ≤ 640 then some (.int n, S) else none
    | none => none
  | _ => none
@[simp] theorem int2_int (S : Sto) (p : Int) : intD2 S [.int p] = some (.int p, S) := rfl
@[simp] theorem int2_bl (S : Sto) (b : Bool) : intD2 S [.bl b] = some (.int (if b then 1 else 0), S) := rfl
theorem cas_int2 {K : PySem.W.Frag} : CaS K (fun xs H Q => ((∃ i, xs = [.int i] ∧ Q (.int i) H) ∨ ∃ k, xs = [.bl k] ∧ Q (.int (if k then 1 else 0)) H) ∨ ∃ a n, xs = [.str a] ∧ PySem.intText? a = some n ∧ a.length ≤ 640 ∧ Q (.int n) H) intD2 := by
  intro L io H S xs l d S' Q sr rv e q
  unfold intD2 at e
  split at e
  · rename_i i
    cases e
    cases rv with
    | cons r t =>
      cases t
      have r := r.vr rfl
      cases r
      exact .inl (.inl ⟨_, rfl, q _ H L io (Stp.refl ..) sr (.int _)⟩)
  · rename_i b
    cases e
    cases rv with
    | cons r t =>
      cases t
      have r := r.vr rfl
      cases r
      exact .inl (.inr ⟨_, rfl, q _ H L io (Stp.refl ..) sr (.int _)⟩)
  · rename_i x
    split at e
    · rename_i n hn
      split at e
      · rename_i hl
        cases e
        cases rv with
        | cons r t =>
          cases t
          have r := r.vr rfl
          cases r
          exact .inr ⟨x, n, rfl, hn, hl, q _ H L io (Stp.refl ..) sr (.int _)⟩
      · cases e
    · cases e
  · cases e
end DL
namespace DL
open PySem PySem.Spec PyProof.Rows L2
def whK (s : DS) (again : Env → Sto → Out) (e : Env) (b : Bool) (S : Sto) : Out := if b then (match s e S with
  | .nx e' S' => again e' S'
  | .ct e' S' => again e' S'
  | .bk e' S' => .nx e' S'
  | o => o) else .nx e S
def whR (t : DT) (s : DS) : Nat → DS
  | 0 => fun _ _ => .no
  | n + 1 => sBind t (whK s (whR t s n))
@[simp] theorem whR_succ (n : Nat) (t : DT) (s : DS) (e : Env) (S : Sto) : whR t s (n + 1) e S = kS (whK s (whR t s n)) e (t e S) := ev_sbind ..
abbrev HCl := Nat × List (Str × Bool) × HR Dv
/-- one clause after the other -/
def takeH : List HCl → Str → List (Str × Dv) → Env → Sto → Out
  | [], c, fs, e, S => .ex c fs e S
  | (i, sub, h) :: r, c, fs, e, S => match sub.lookup c with
    | some true => if i < e.length then (match h c fs (e.set i .no) S with
      | .ok d S2 => .rt d S2
      | _ => .no) else .no
    | some false => takeH r c fs e S
    | none => .no
def kTryM (l : List HCl) (els : DS) : Out → Out
  | .ex c fs e' S' => takeH l c fs e' S'
  | .nx e' S' => els e' S'
  | o => o
def sTryM (l : List HCl) (body els : DS) : DS := fun e S => kTryM l els (body e S)
@[simp] theorem ev_tryM (l : List HCl) (body els : DS) (e : Env) (S : Sto) : sTryM l body els e S = kTryM l els (body e S) := rfl
@[simp] theorem kTryM_nx (l : List HCl) (els : DS) (e : Env) (S : Sto) : kTryM l els (.nx e S) = els e S := rfl
@[simp] theorem kTryM_rt (l : List HCl) (els : DS) (d : Dv) (S : Sto) : kTryM l els (.rt d S) = .rt d S := rfl
@[simp] theorem kTryM_ex (l : List HCl) (els : DS) (c : Str) (fs : List (Str × Dv)) (e : Env) (S : Sto) : kTryM l els (.ex c fs e S) = takeH l c fs e S := rfl
end DL
namespace DL
open PySem PySem.Spec PyProof.Rows L2
section
variable {X : Cx} {W : WX} {e : Expr} {es : List Expr} {ta : TA} {p pos : Pos}
/-- C(e, ..), as pmk_oexG, kept -/
theorem pe_oexV {x : Str} {C fI : Addr} {k : Nat} {fd : FuncData} {ps : List Str} {sp : Sp} (T : OexC X.K C) (iC : PySem.W.findIn X.K (.ref C) "__init__" = some (some (.ref fI))) (tI : PySem.W.typeIn X.K (.ref fI) = some (.type "function"))
    (F1 : FnG X.prog X.w X.K X.mg X.base k fI fd ps sp) (hr : RoomG (k + 1) X.A) (hb : Binds X.K fd ps []) (hg : Gl X x) (hm : X.mg x = some (.ref C)) (ha : PA X (e :: es) ta)
    (hdb : (x == ("__debug__" : Str)) = false := by decide) (he : starEach (e :: es) X.env = (false, eval e X.env) :: starEach es X.env := by rfl) (hpl : (backTo pos (starEach es X.env)).any (·.1) = false := by rfl) :
    PE X (.Call (.Name x p) (e :: es) [] pos) (fun σ H Q => ta σ H fun vs H1 => vs.length ≤ 1000 ∧ ∀ a, H1 a = none → sp (.ref a :: vs) (upd H1 a (exo a C none)) (fun v H2 => v = .non ∧ Q (.ref a) H2) (fun _ _ _ => False)) := by
  refine ⟨fun pins s σ H Q I h => ?_⟩
  obtain ⟨nm, q, N, bs, bm, sn, sub, ab, col, dd, k0, k1, k2, k3, k5, hC, hbm⟩ := T.cls
  refine wpAny_Call_Name_kw (ld_glob I hg hm ?_ hdb)
  refine PySem.W.callWith_K (h₀ := X.base) I.ok.mod.kin T.kC (thn (ha.run pos pins s σ H _ I h) fun us s1 ⟨vs, H1, I1, r1, hz, q1⟩ => ⟨I1.kIn, ?_⟩) he hpl
  show wpAny _ _ (call (.ref C) us) _ _ _
  obtain ⟨hp, g, dr, tk, os⟩ := s1
  have hsz : hp.objs.size ≤ hp.objs.size + 1 := Nat.le_succ _
  have hn : H1 (hp.objs.size + 1) = none := I1.hok.fresh hsz
  have hq := q1 (hp.objs.size + 1) hn
  have kk : ∀ b o, hp.get? b = some o → ((hp.push (PySem.W.kdv_tup us)).push (PySem.HandSPX.excO C hp.objs.size)).get? b = some o := fun b o e => Heap.get?_push_of_some _ (Heap.get?_push_of_some _ e)
  have hget : ((hp.push (PySem.W.kdv_tup us)).push (PySem.HandSPX.excO C hp.objs.size)).get? (hp.objs.size + 1) = some (PySem.HandSPX.excO C hp.objs.size) := by heap_get
  have I2 : Inv X pins σ (upd H1 (hp.objs.size + 1) (exo (hp.objs.size + 1) C none)) ⟨(hp.push (PySem.W.kdv_tup us)).push (PySem.HandSPX.excO C hp.objs.size), g, dr, tk, os⟩ :=
    I1.laid (t' := tk) (a := hp.objs.size + 1) (o := exo (hp.objs.size + 1) C none) (h' := (hp.push (PySem.W.kdv_tup us)).push (PySem.HandSPX.excO C hp.objs.size)) kk hsz (exo_ok hget)
  have r2 : Vals (V.ref (hp.objs.size + 1) :: (vs ++ [])) (Value.ref (hp.objs.size + 1) :: (us ++ [])) := .cons rfl (r1.append .nil)
  have hl : (Value.ref (hp.objs.size + 1) :: us ++ []).length = ps.length := by
    have e := r2.length
    rw [F1.len _ _ _ _ (by rw [List.append_nil]; exact hq)] at e
    exact e.symm
  have hus : us.length ≤ sizeLine := by
    rw [← Paired.length r1, sizeLine_eq]
    omega
  refine wpAny_call (PySem.HandSPX.call_own F.excBase_ValueError (fun Y => PySem.HandSPX.refsVE_contains Y bm hbm) (I1.kIn _ _ hC) (PySem.W.looks_findIn I1.kIn iC) (fun self => PySem.W.bind_fn I1.kIn self tI) hus
    (codeAny_mono (F1.run _ X.stack _ _ ⟨Value.ref (hp.objs.size + 1) :: us, []⟩ (Value.ref (hp.objs.size + 1) :: (us ++ [])) _ _ (fun _ _ _ => False) (hr.make C us []) (I2.env0.make C us []) (show BindsTo _ fd _ (ps.zip (Value.ref (hp.objs.size + 1) :: (us ++ []))) from hb _ (Value.ref (hp.objs.size + 1) :: us) I2.kIn hl) r2 (by rw [List.append_nil]; exact hq)) fun r s' hq' => ?_))
  cases r with
  | error er => exact (takesW0 (X := X)) er s' (XE.of_call I2 (fun _ _ _ z => z) hq')
  | ok fl =>
    cases fl with
    | ret u =>
      obtain ⟨v, H2, os2, bare2, un2, hok2, rv, ev, q2⟩ := hq'
      subst ev
      refine ⟨rv, ?_⟩
      exact ⟨.ref (hp.objs.size + 1), H2, I2.call' (ch := []) os2 un2 hok2 bare2 (fun b z => absurd z (by simp)), rfl, q2⟩
    | next => exact False.elim hq'
    | brk => exact False.elim hq'
    | cont => exact False.elim hq'
def kExc (g : DF) (c : Str) (ns : List Str) (l : List Dv) (S : Sto) : Res Dv := match g S l with
  | .ok _ _ => if l.length = ns.length then .ok (.ext 1 c ns l) S else .no
  | _ => .no
def eExc (g : DF) (c : Str) (ns : List Str) (fa : DA) : DE := fun e S => match fa e S with
  | .ok l S1 => kExc g c ns l S1
  | _ => .no
theorem qe_exc {k : Nat} {c : Str} {ns : List Str} {g : DF} {fa : DA} (F : FX X.prog X.w X.K X.mg X.base k c ns g) (hr : RoomG (k + 1) X.A) (hns : ns.length ≤ 1000) (ha : QA X W (e :: es) fa) (hg : Gl X c := by rfl)
    (hdb : (c == ("__debug__" : Str)) = false := by decide) (he : starEach (e :: es) X.env = (false, eval e X.env) :: starEach es X.env := by rfl) (hpl : (backTo pos (starEach es X.env)).any (·.1) = false := by rfl) :
    QE X W (.Call (.Name c p) (e :: es) [] pos) (eExc g c ns fa) := by
  rcases F with F | ⟨fd, ps, F, hm, T, hb⟩
  · refine ⟨fun pins s σ H Q I h => ?_⟩
    obtain ⟨L0, io0, H0, L, io, ev, S, fr, h⟩ := h
    exfalso
    unfold eExc at h
    cases hf : fa ev S with
    | ok l S' => rw [hf] at h; simp only [kExc, F] at h; exact h
    | ex c' fs S' => rw [hf] at h; exact h
    | no => rw [hf] at h; exact h
  · refine pe_imp (pe_oexV T.o T.i T.t F hr hb hg hm ha hdb he hpl) fun σ H Q h => ?_
    have h2 : Rdg X.K W (VR X.K) (fun e S => bnd (fa e S) (kExc g c ns)) σ H Q := by
      obtain ⟨L0, io0, H0, L, io, ev, S, fr, h⟩ := h
      refine ⟨L0, io0, H0, L, io, ev, S, fr, ?_⟩
      unfold eExc at h
      cases hf : fa ev S with
      | ok l S' => rw [hf] at h; show Fin X.K W (VR X.K) σ L io H Q (bnd (fa ev S) (kExc g c ns)); rw [hf]; exact h
      | _ => rw [hf] at h; exact h.elim
    refine Rdg.bind (R := VRs X.K) (k := fun _ l S1 => kExc g c ns l S1) h2 fun L0 io0 H0 L io H1 ev S l vs fr rv q => ?_
    unfold kExc at q
    cases hgg : g S l with
    | ok d S' =>
      rw [hgg] at q
      simp only at q
      split at q
      · rename_i hlen
        have hvl : vs.length = ns.length := by rw [rv.len, hlen]
        refine ⟨by omega, fun a hna => ?_⟩
        refine ⟨a, vs, rfl, hvl, upd_same, fun dx H2 k1 k2 k3 k4 k5 => ⟨rfl, ?_⟩⟩
        have hd : H1 dx = none := by rw [upd_ne k2] at k1; exact k1
        have keep : ∀ b o, H1 b = some o → H2 b = some o := fun b o e => by
          have n1 : b ≠ a := ne_of_none e hna
          have n2 : b ≠ dx := ne_of_none e hd
          rw [k5 b n1 n2, upd_ne n1]; exact e
        have s : Stp L io H1 L io H2 := ⟨⟨[], by simp⟩, fun _ h => .inl h, fun _ h => .inl h, fun b o e _ => keep b o e, fun _ h => h⟩
        have sr : SR X.K L io H2 S := ⟨fr.st.len, fr.st.nd, fr.st.sub, fun b hb => (by
            cases hz : H1 b with
            | none => exact absurd hz (fr.st.dom b hb)
            | some o => rw [keep b o hz]; exact fun z => nomatch z), fun k b o e1 e2 => (fr.st.obj k b o e1 e2).mono (fun u e' => keep b u e') fun v d r => r.step s fr.st.sub⟩
        refine q _ H2 L io s sr (.ext (by decide) (KindE.exc (dx := dx) hvl) (fun p hp => ?_) (rv.step s fr.st.sub))
        rcases List.mem_cons.mp hp with rfl | hp
        · exact ⟨fr.st.fresh hna, k3⟩
        · cases List.mem_singleton.mp hp
          exact ⟨fr.st.fresh hd, k4⟩
      · exact q.elim
    | _ => rw [hgg] at q; exact q.elim
end
def TyE (K : PySem.W.Frag) (H : Hp) (a : Addr) (t : Value) : Prop := ∃ C f ns dx fs, XcF K C f ns ∧ t = .ref C ∧ H a = some (exo a C (some dx)) ∧ H dx = some (exd dx fs)
def TyA (K : PySem.W.Frag) (H : Hp) (v : V) (t : Value) : Prop := TyX K H v t ∨ ∃ a, v = .ref a ∧ TyE K H a t
def rIsA1 (K : PySem.W.Frag) : List V → Hp → VK → Prop := fun xs H Q => ∃ (x c : V) (t u : Value) (b : Bool), xs = [x, c] ∧ ClsV c u ∧ TyA K H x t ∧ PySem.W.kitOne K t u = some b ∧ Q (.bl b) H
def rIsA2 (K : PySem.W.Frag) : List V → Hp → VK → Prop := fun xs H Q => ∃ (x : V) (tp : Addr) (cs : List V) (t : Value) (us : List Value) (b : Bool), xs = [x, .ref tp] ∧ H tp = some (.tup cs) ∧ Paired ClsV cs us ∧ TyA K H x t ∧ PySem.W.kitAny K t us = some b ∧ Q (.bl b) H
def rIsA3 (K : PySem.W.Frag) : List V → Hp → VK → Prop := fun xs H Q => ∃ (x : V) (tp : Addr) (dd : Option Addr) (us : List Value) (n : Nat) (sl : Array (Option Value)) (t : Value) (b : Bool), xs = [x, .ref tp] ∧
  K.lookup tp = some ⟨.type "tuple", dd, .seq us.toArray n, sl⟩ ∧ TyA K H x t ∧ PySem.W.kitAny K t us = some b ∧ Q (.bl b) H
section
variable {X : Cx} {pins : List (Addr × Obj)} {σ : L2.St} {H : Hp} {s : Shared}
theorem inst_exc {a C dx : Addr} {fs : List (Str × V)} (I : Inv X pins σ H s) (h1 : H a = some (exo a C (some dx))) (h2 : H dx = some (exd dx fs)) : ∃ oe od, PySem.W.InstAt s.heap a oe C (some od) := by
  obtain ⟨t1, hget⟩ := exo_at I.hok h1
  obtain ⟨mA, ⟨o, es, ep, e1, e2, _⟩, _⟩ := exd_at I.hok h2
  exact ⟨_, o, ⟨hget, rfl, rfl, e1⟩⟩
theorem call_isa1 : CallR X (.builtin "isinstance") (rIsA1 X.K) := by
  intro pins s σ H xs us Q I r h
  obtain ⟨x, c, t, u, b, rfl, k, ty, e, q⟩ := h
  rcases ty with ty | ⟨a, rfl, C, f, ns, dx, fs, F, rfl, h1, h2⟩
  · exact call_isi pins s σ H _ us Q I r ⟨x, c, t, u, b, rfl, k, ty, e, q⟩
  · obtain ⟨u1, u2, rfl, r1, r2⟩ := vals2 r
    have e2 := k.eq r2
    subst e2
    cases (show u1 = Value.ref a from r1)
    obtain ⟨oe, od, J⟩ := inst_exc I h1 h2
    exact PySem.W.kia_one (PySem.W.kitx_exc F.cl F.x.ga F.x.gg F.x.exC F.ha F.hn F.ht F.hm) I.kIn J e (fun z => nomatch z) fun tk => ⟨.bl b, H, I.tok tk, rfl, q⟩
theorem call_isa2 : CallR X (.builtin "isinstance") (rIsA2 X.K) := by
  intro pins s σ H xs us Q I r h
  obtain ⟨x, tp, cs, t, ws, b, rfl, hT, k, ty, e, q⟩ := h
  rcases ty with ty | ⟨a, rfl, C, f, ns, dx, fs, F, rfl, g1, g2⟩
  · exact call_isiT pins s σ H _ us Q I r ⟨x, tp, cs, t, ws, b, rfl, hT, k, ty, e, q⟩
  · obtain ⟨u1, u2, rfl, r1, r2⟩ := vals2 r
    cases (show u2 = Value.ref tp from r2)
    cases (show u1 = Value.ref a from r1)
    obtain ⟨oe, od, J⟩ := inst_exc I g1 g2
    obtain ⟨_, its, rv, o, h1, h2, n, h3⟩ := (show ObjOk X.prog X.w H s.heap tp (.tup cs) from I.hok tp _ hT)
    have e3 := ClsV.all k rv
    subst e3
    obtain ⟨oc, od', dt, sl⟩ := o
    simp only at h2 h3
    subst h2 h3
    exact PySem.W.kia_tup (PySem.W.kitx_exc F.cl F.x.ga F.x.gg F.x.exC F.ha F.hn F.ht F.hm) I.kIn J h1 e (fun z => nomatch z) fun tk => ⟨.bl b, H, I.tok tk, rfl, q⟩
theorem call_isa3 : CallR X (.builtin "isinstance") (rIsA3 X.K) := by
  intro pins s σ H xs us Q I r h
  obtain ⟨x, tp, dd, ws, n, sl, t, b, rfl, hk, ty, e, q⟩ := h
  rcases ty with ty | ⟨a, rfl, C, f, ns, dx, fs, F, rfl, g1, g2⟩
  · exact call_isiK pins s σ H _ us Q I r ⟨x, tp, dd, ws, n, sl, t, b, rfl, hk, ty, e, q⟩
  · obtain ⟨u1, u2, rfl, r1, r2⟩ := vals2 r
    cases (show u2 = Value.ref tp from r2)
    cases (show u1 = Value.ref a from r1)
    obtain ⟨oe, od, J⟩ := inst_exc I g1 g2
    exact PySem.W.kia_tup (PySem.W.kitx_exc F.cl F.x.ga F.x.gg F.x.exC F.ha F.hn F.ht F.hm) I.kIn J (I.kIn _ _ hk) e (fun z => nomatch z) fun tk => ⟨.bl b, H, I.tok tk, rfl, q⟩
end
def rIsaA (K : PySem.W.Frag) : List V → Hp → VK → Prop := fun xs H Q => rIsiA K xs H Q ∨ rIsA1 K xs H Q ∨ rIsA2 K xs H Q ∨ rIsA3 K xs H Q
theorem call_isaA {X : Cx} : CallR X (.builtin "isinstance") (rIsaA X.K) := CallR.or call_isiA (CallR.or call_isa1 (CallR.or call_isa2 call_isa3))
/-- what the head says: own instances, own exceptions; no built-in class is theirs -/
structure BlF (K : PySem.W.Frag) (os xs : List Str) : Prop where
  own : ∀ c ∈ os, InF K (He.ga K c) ∧ ∀ T ∈ blt, PySem.W.kitOne K (.ref (He.ga K c)) (.type T) = some false
  exc : ∀ c ∈ xs, (∃ f, XcF K (He.ga K c) f []) ∧ ∀ T ∈ blt, PySem.W.kitOne K (.ref (He.ga K c)) (.type T) = some false
def blB (os xs : List Str) : Ft := .any fun K => (os.all fun c => (infB c).ok K && blt.all fun T => PySem.W.kitOne K (.ref (He.ga K c)) (.type T) == some false) &&
  xs.all fun c => (xcB c []).ok K && blt.all fun T => PySem.W.kitOne K (.ref (He.ga K c)) (.type T) == some false
theorem bl_f {K : PySem.W.Frag} {os xs : List Str} (h : (blB os xs).ok K = true) : BlF K os xs := by
  have h0 : ((os.all fun c => (infB c).ok K && blt.all fun T => PySem.W.kitOne K (.ref (He.ga K c)) (.type T) == some false) && xs.all fun c => (xcB c []).ok K && blt.all fun T => PySem.W.kitOne K (.ref (He.ga K c)) (.type T) == some false) = true := h
  obtain ⟨h1, h2⟩ := He.ba h0
  refine ⟨fun c hc => ?_, fun c hc => ?_⟩
  · obtain ⟨h3, h4⟩ := He.ba (List.all_eq_true.mp h1 c hc)
    exact ⟨inf_f h3, fun T hT => beq_iff_eq.mp (List.all_eq_true.mp h4 T hT)⟩
  · obtain ⟨h3, h4⟩ := He.ba (List.all_eq_true.mp h2 c hc)
    exact ⟨⟨_, xc_f h3⟩, fun T hT => beq_iff_eq.mp (List.all_eq_true.mp h4 T hT)⟩
def notB (os xs : List Str) (S : Sto) (d : Dv) : Bool := match insOf S d with
  | some (c, _) => os.contains c
  | none => match d with
    | .ext 1 c _ _ => xs.contains c
    | _ => false
def tysB : List String → Bool
  | [] => true
  | t :: l => blt.contains t && tysB l
def isaD (os xs : List Str) (S : Sto) : List Dv → Option (Dv × Sto)
  | [d, c] => match isiD S [d, c] with
    | some r => some r
    | none => if notB os xs S d then (match c with
      | .ty t => if blt.contains t then some (.bl false, S) else none
      | .tup cs => (match tysOf cs with
        | some l => if tysB l then some (.bl false, S) else none
        | none => none)
      | _ => none) else none
  | _ => none
section
variable {K : PySem.W.Frag} {L : Addr → Prop} {io : List Addr} {H : Hp} {S : Sto} {os xs : List Str}
theorem notB_ok (B : BlF K os xs) (s : SR K L io H S) {v : V} {d : Dv} (r : VX K L io H v d) (h : notB os xs S d = true) : ∃ t, TyA K H v t ∧ ∀ T ∈ blt, PySem.W.kitOne K t (.type T) = some false := by
  unfold notB at h
  cases h1 : insOf S d with
  | some z =>
    obtain ⟨c, fs⟩ := z
    rw [h1] at h
    obtain ⟨f, hk⟩ := B.own c (List.contains_iff_mem.mp h)
    obtain ⟨p, dx, vs, rfl, hp⟩ := insOf_ty s r h1
    exact ⟨_, .inl (.base (.ins hp f.cl f.ha f.hn f.htk f.hm)), hk⟩
  | none =>
    rw [h1] at h
    cases d with
    | ext t c ns ds =>
      by_cases ht : t = 1
      · subst ht
        obtain ⟨⟨f, F⟩, hk⟩ := B.exc c (List.contains_iff_mem.mp h)
        cases r.vr rfl with
        | ext h0 hk' ho t =>
          cases hk' with
          | exc hl => exact ⟨_, .inr ⟨_, rfl, _, _, _, _, _, F, rfl, (ho _ List.mem_cons_self).2, (ho _ (List.mem_cons_of_mem _ List.mem_cons_self)).2⟩, hk⟩
      · simp [ht] at h
    | _ => cases h
theorem kitAny_no {t : Value} (hk : ∀ T ∈ blt, PySem.W.kitOne K t (.type T) = some false) : ∀ (l : List String), tysB l = true → PySem.W.kitAny K t (l.map Value.type) = some false
  | [], _ => rfl
  | T :: l, h => by
    obtain ⟨h1, h2⟩ := He.ba (show (blt.contains T && tysB l) = true from h)
    simp only [List.map_cons, PySem.W.kitAny, hk T (List.contains_iff_mem.mp h1)]
    exact kitAny_no hk l h2
theorem cas_isa (B : BlF K os xs) : CaS K (rIsaA K) (isaD os xs) := by
  intro L io H S vs l d S' Q sr rv e q
  match l, rv, e with
  | [dd, cc], rv, e =>
    unfold isaD at e
    simp only at e
    cases h0 : isiD S [dd, cc] with
    | some z =>
      rw [h0] at e
      cases e
      exact .inl (cas_isi L io H S vs _ _ _ Q sr rv h0 q)
    | none =>
      rw [h0] at e
      simp only at e
      split at e
      · rename_i hn
        cases rv with
        | cons r t =>
          cases t with
          | cons r2 t2 =>
            cases t2
            obtain ⟨t, ty, hk⟩ := notB_ok B sr r hn
            split at e
            · rename_i T
              split at e
              · rename_i hT
                cases e
                cases r2.vr rfl with
                | ty T => exact .inr (.inl ⟨_, _, t, _, false, rfl, .ty T, ty, hk _ (List.contains_iff_mem.mp hT), q _ H L io (Stp.refl ..) sr (.bl _)⟩)
              · cases e
            · rename_i cs
              split at e
              · rename_i l h3
                split at e
                · rename_i hT
                  cases e
                  have hka := kitAny_no hk l hT
                  cases r2.vr rfl with
                  | tup n ht ts => exact .inr (.inr (.inl ⟨_, _, _, t, _, false, rfl, ht, tysOf_ok ts h3, ty, hka, q _ H L io (Stp.refl ..) sr (.bl _)⟩))
                  | tupK ht ts =>
                    rcases ht.1 (fun _ => none) with (ht | ⟨o, ht⟩) | ⟨⟨oc, od, dt, sl⟩, its, n, e1, e2, e3, _, rv⟩
                    · cases ht
                    · cases ht
                    · simp only at e2 e3
                      subst e2 e3
                      have ei := ClsV.all (tysOf_ok ts h3) rv
                      exact .inr (.inr (.inr ⟨_, _, od, its.toList, n, sl, t, false, rfl, by simpa using e1, ty, by rw [ei]; exact hka, q _ H L io (Stp.refl ..) sr (.bl _)⟩))
                · cases e
              · cases e
            · cases e
      · cases e
end
end DL
namespace DL
open PySem L2
def mulSD : Sto → Dv → Dv → Option (Dv × Sto)
  | S, .str a, .int n => if 1 ≤ n ∧ n ≤ 100000 ∧ a.length ≤ 100 then some (.str (Txt.mul a n), S) else none
  | _, _, _ => none
theorem mulOk_of {a : Str} {n : Int} (h1 : 1 ≤ n) (h2 : n ≤ 100000) (h3 : a.length ≤ 100) : MulOk a n := by
  refine ⟨?_, fun _ _ => ?_, fun _ _ => ?_⟩
  · simp only [Bool.or_eq_false_iff, decide_eq_false_iff_not]
    constructor <;> omega
  · have : (100 : Int) ≤ (2 ^ 63 - 1) / n := by
      rw [Int.le_ediv_iff_mul_le (by omega)]
      omega
    omega
  · have hm : a.length * n.toNat ≤ 100 * 100000 := Nat.mul_le_mul h3 (by omega)
    have h5 := sizeLine_eq
    show decide (a.length * n.toNat > sizeLine) = false
    rw [decide_eq_false_iff_not]
    omega
theorem op_mulS {X : Cx} : OpR X (binaryOp .Mult) (fun x y H Q => ∃ a n, x = .str a ∧ y = .int n ∧ MulOk a n ∧ Q (.str (Txt.mul a n)) H) := by
  intro pins s σ H x y v u Q I rx ry h
  obtain ⟨a, n, rfl, rfl, hok, q⟩ := h
  obtain ⟨t, rfl⟩ := rx
  obtain ⟨t', rfl⟩ := ry
  exact PySem.SB.mul hok fun t2 k => ⟨.str (Txt.mul a n), H, I.tok k, ⟨t2, rfl⟩, q⟩
theorem ops_mulS {K : PySem.W.Frag} : OpS K (fun x y H Q => ∃ a n, x = .str a ∧ y = .int n ∧ MulOk a n ∧ Q (.str (Txt.mul a n)) H) mulSD := by
  intro L io H S x y a b d S' Q sr ra rb e q
  cases a with
  | str a =>
    cases b with
    | int n =>
      simp only [mulSD] at e
      split at e
      · rename_i h
        cases e
        cases ra.vr rfl
        cases rb.vr rfl
        exact ⟨a, n, rfl, rfl, mulOk_of h.1 h.2.1 h.2.2, q _ H L io (Stp.refl ..) sr (.str _)⟩
      · cases e
    | _ => cases e
  | _ => cases e
section
variable {X : Cx} {W : WX} {a b o : Expr} {f f1 f2 : DE} {pos apos cpos : Pos}
theorem qe_mulS (ha : QX X W a f1) (hb : QX X W b f2) : QE X W (.BinOp a .Mult b pos) (eBin mulSD f1 f2) := qe_op op_mulS ops_mulS ha hb
def kUp : Dv → Sto → Res Dv
  | .str a, S => if a.length ≤ 100 then .ok (.str (Txt.upper a)) S else .no
  | _, _ => .no
def eUp (f : DE) : DE := fun e S => bnd (f e S) kUp
theorem qe_upper (ho : QE X W o f) (hbase : attributeBase o "upper" X.env (eval o X.env) = eval o X.env := by rfl) (hline : (apos.endLine == cpos.line) = true := by rfl) :
    QE X W (.Call (.Attribute o "upper" apos) [] [] cpos) (eUp f) := pe_imp (pe_upper ho hbase hline) fun g H Q q => by
  refine Rdg.bind (R := VR X.K) (k := fun _ => kUp) q fun L0 io0 H0 L io H1 e S d v fr rv q => ?_
  cases d with
  | str a =>
    simp only [kUp] at q
    split at q
    · cases rv
      exact ⟨⟨a, rfl⟩, a, rfl, rfl, by omega, q _ H1 L io (Stp.refl ..) fr.st (.str _)⟩
    · exact q.elim
  | _ => exact q.elim
end
def optOr {α : Type} : Option α → Option α → Option α
  | some a, _ => some a
  | none, b => b
@[simp] theorem optOr_some {α : Type} (a : α) (b : Option α) : optOr (some a) b = some a := rfl
@[simp] theorem optOr_none {α : Type} (b : Option α) : optOr none b = b := rfl
def isaE (os xs : List Str) (S : Sto) (d c : Dv) : Option (Dv × Sto) := if notB os xs S d then (match c with
      | .ty t => if blt.contains t then some (.bl false, S) else none
      | .tup cs => (match tysOf cs with
        | some l => if tysB l then some (.bl false, S) else none
        | none => none)
      | _ => none) else none
@[simp] theorem isaD_eq (os xs : List Str) (S : Sto) (d c : Dv) : isaD os xs S [d, c] = optOr (isiD S [d, c]) (isaE os xs S d c) := by
  unfold isaD isaE
  simp only
  generalize isiD S [d, c] = o
  cases o with
  | some a => rfl
  | none =>
    simp only [optOr_none]
    all_goals (by_cases h : notB os xs S d = true)
    all_goals (simp only [h, if_true])
    all_goals (try rfl)
    all_goals (cases c <;> rfl)
@[simp] theorem isi_obj (S : Sto) (c : Str) (fs : List (Str × Dv)) (x : Dv) : isiD S [.obj c fs, x] = none := by cases x <;> rfl
@[simp] theorem isi_ext (S : Sto) (t : Nat) (c : Str) (ns : List Str) (fs : List Dv) (x : Dv) : isiD S [.ext t c ns fs, x] = none := by cases x <;> rfl
theorem foldl_len : ∀ (l : List (Array Nat)) (a : Array Nat), (l.foldl (· ++ ·) a).size = a.size + (l.map (·.size)).sum
  | [], a => by simp
  | x :: l, a => by
    rw [List.foldl_cons, foldl_len l, Array.size_append, List.map_cons, List.sum_cons]
    omega
theorem mul_len (x : Str) (n : Int) (h : 1 ≤ n) : (Txt.mul x n).length = x.length * n.toNat := by
  unfold Txt.mul
  rw [if_neg (by omega)]
  split
  · rename_i h2
    simp only [Bool.or_eq_true, beq_iff_eq] at h2
    rcases h2 with h2 | h2
    · subst h2; simp
    · rw [h2]; simp
  · show (List.foldl (· ++ ·) #[] (List.replicate n.toNat x.cps)).size = _
    rw [foldl_len, List.map_replicate, List.sum_replicate_nat]
    simp [Str.length, Nat.mul_comm]
end DL
namespace DL
open PySem L2
inductive Fn where
  | l_bag
  | BadRow_init
  | Unset_init
  | as_tuples
  | values_in
  | places_in
  | parts_of
  | all_names
  | read_in
  | is_made_of
  | is_helper
  | unset_in
  | has_form
  | is_list_of
  | is_own_name
  | is_name
  | is_word
  | is_sign
  | is_expression
  | is_place
  | is_many
  | is_simple_row
  | is_any
  | is_operand
  | blocks_of
  | fault_in
  | first_fault
  | helper_number
  | Program_init
  | l_take
  | l_one
  | l_kept
  | l_near
  | l_lower
  | l_string
  | l_thing
  | l_all_in
  | l_due
  | law
def bl_os : List Str := ["Program"]
def bl_xs : List Str := ["BadRow", "Unset"]
def tbl : List (Str × Fn) := [("is_expression", .is_expression), ("is_place", .is_place), ("is_any", .is_any), ("is_operand", .is_operand)]
def c_DIGITS : Dv := (.str "0123456789")
def c_LETTERS : Dv := (.str "abcdefghijklmnopqrstuvwxyz")
def c_RESERVED : Dv := (.tup [(.str "do"), (.str "if"), (.str "else"), (.str "while"), (.str "end")])
def dl_Program_1 : List Dv := []
def xtab : List (Str × List Str) := [("BadRow", ["path"]), ("Unset", ["name"]), ("NoRow", ["index"])]
def fb_l_bag (c : Fn → DF) : DS := (sRet (eNew (fLst (aCons (eC (.int 0)) (aCons (eC (.int 1234567891)) (aCons (eC (.int 0)) (aCons (eFrz (fLc (iSq (eCut (eVar 0) oNone (oSome (eC (.int 63))))) (gN 1) tTrue (eCB absD (aCons (eVar 1) aNil)) [1])) aNil)))))))
def g_l_bag (c : Fn → DF) : DF := runF 1 2 (fb_l_bag c)
def g_BadRow_init (c : Fn → DF) : DF := gX
def g_Unset_init (c : Fn → DF) : DF := gX
def fb_as_tuples (c : Fn → DF) : DS := (sSeq (sIf (tTru (eCB (isaD bl_os bl_xs) (aCons (eVar 0) (aCons (eTup (aCons (eC (.ty "tuple")) (aCons (eC (.ty "list")) aNil))) aNil)))) (sRet (eCB tupleD (aCons (eFrz (fLc (iSq (eVar 0)) (gN 1) tTrue (eCall (c .as_tuples) (aCons (eVar 1) aNil)) [1])) aNil))) sNil) (sRet (eVar 0)))
def g_as_tuples (c : Fn → DF) : DF := runF 1 2 (fb_as_tuples c)
def fb_values_in (c : Fn → DF) : DS := (sSeq (sIf (tVal (eBin eqE (eBin ixD (eVar 0) (eC (.int 0))) (eC (.str "do")))) (sRet (eTup (aCons (eBin ixD (eVar 0) (eC (.int 1))) aNil))) sNil) (sSeq (sIf (tVal (eBin (inD false) (eBin ixD (eVar 0) (eC (.int 0))) (eTup (aCons (eC (.str "set")) (aCons (eC (.str "add")) (aCons (eC (.str "chain")) aNil)))))) (sRet (eTup (aCons (eBin ixD (eVar 0) (eC (.int 2))) aNil))) sNil) (sSeq (sIf (tVal (eBin eqE (eBin ixD (eVar 0) (eC (.int 0))) (eC (.str "many")))) (sRet (eBin ixD (eVar 0) (eC (.int 3)))) sNil) (sSeq (sIf (tVal (eBin eqE (eBin ixD (eVar 0) (eC (.int 0))) (eC (.str "exchange")))) (sRet (eTup aNil)) sNil) (sRet (eBin ixD (eVar 0) (eC (.int 2))))))))
def g_values_in (c : Fn → DF) : DF := runF 1 1 (fb_values_in c)
def fb_places_in (c : Fn → DF) : DS := (sSeq (sIf (tVal (eBin (inD false) (eBin ixD (eVar 0) (eC (.int 0))) (eTup (aCons (eC (.str "set")) (aCons (eC (.str "add")) aNil))))) (sRet (eTup (aCons (eBin ixD (eVar 0) (eC (.int 1))) aNil))) sNil) (sSeq (sIf (tVal (eBin eqE (eBin ixD (eVar 0) (eC (.int 0))) (eC (.str "exchange")))) (sRet (eCut (eVar 0) (oSome (eC (.int 1))) oNone)) sNil) (sSeq (sIf (tVal (eBin (inD false) (eBin ixD (eVar 0) (eC (.int 0))) (eTup (aCons (eC (.str "chain")) (aCons (eC (.str "many")) aNil))))) (sRet (eBin ixD (eVar 0) (eC (.int 1)))) sNil) (sRet (eTup aNil)))))
def g_places_in (c : Fn → DF) : DF := runF 1 1 (fb_places_in c)
def fb_parts_of (c : Fn → DF) : DS := (sSeq (sIf (tVal (eBin eqE (eBin ixD (eVar 0) (eC (.int 0))) (eC (.str "call")))) (sRet (eCB tupleD (aCons (eBin ixD (eVar 0) (eC (.int 2))) aNil))) sNil) (sSeq (sIf (tVal (eBin (inD false) (eBin ixD (eVar 0) (eC (.int 0))) (eTup (aCons (eC (.str "item")) (aCons (eC (.str "slice")) aNil))))) (sRet (eCB tupleD (aCons (eCut (eVar 0) (oSome (eC (.int 1))) oNone) aNil))) sNil) (sRet (eTup aNil))))
def g_parts_of (c : Fn → DF) : DF := runF 1 1 (fb_parts_of c)
def fb_all_names_l0 (c : Fn → DF) : DS := (sOwnM extD 1 (aCons (eCall (c .all_names) (aCons (eVar 2) aNil)) aNil))
def fb_all_names (c : Fn → DF) : DS := (sSeq (sIf (tVal (eBin eqE (eBin ixD (eVar 0) (eC (.int 0))) (eC (.str "name")))) (sRet (eFrz (fLst (aCons (eBin ixD (eVar 0) (eC (.int 1))) aNil)))) sNil) (sSeq (sOwnN 1 (nL (fLst aNil))) (sSeq (sFor (iSq (eCall (c .parts_of) (aCons (eVar 0) aNil))) (gN 2) (fb_all_names_l0 c)) (sSeq (sFz 1) (sRet (eVar 1))))))
def g_all_names (c : Fn → DF) : DF := runF 1 3 (fb_all_names c)
def fb_read_in_l0 (c : Fn → DF) : DS := (sOwnM extD 1 (aCons (eCall (c .all_names) (aCons (eVar 2) aNil)) aNil))
def fb_read_in_l1 (c : Fn → DF) : DS := (sIf (tOr' (tVal (eBin neE (eBin ixD (eVar 3) (eC (.int 0))) (eC (.str "name")))) (tVal (eBin (inD false) (eBin ixD (eVar 0) (eC (.int 0))) (eTup (aCons (eC (.str "add")) (aCons (eC (.str "exchange")) aNil)))))) (sOwnM extD 1 (aCons (eCall (c .all_names) (aCons (eVar 3) aNil)) aNil)) sNil)
def fb_read_in (c : Fn → DF) : DS := (sSeq (sOwnN 1 (nL (fLst aNil))) (sSeq (sFor (iSq (eCall (c .values_in) (aCons (eVar 0) aNil))) (gN 2) (fb_read_in_l0 c)) (sSeq (sFor (iSq (eCall (c .places_in) (aCons (eVar 0) aNil))) (gN 3) (fb_read_in_l1 c)) (sSeq (sFz 1) (sRet (eVar 1))))))
def g_read_in (c : Fn → DF) : DF := runF 1 4 (fb_read_in c)
def fb_is_made_of_l0 (c : Fn → DF) : DS := (sIf (tVal (eBin (inD true) (eVar 2) (eVar 1))) (sRet (eC (.bl false))) sNil)
def fb_is_made_of (c : Fn → DF) : DS := (sSeq (sIf (tOr' (tNot' (tTru (eCB (isaD bl_os bl_xs) (aCons (eVar 0) (aCons (eC (.ty "str")) aNil))))) (tNot' (tVal (eChn (pu2 ltD) (pu2 leD) (eC (.int 0)) (eCB lenD (aCons (eVar 0) aNil)) (eC (.int 8)))))) (sRet (eC (.bl false))) sNil) (sSeq (sFor (iSq (eVar 0)) (gN 2) (fb_is_made_of_l0 c)) (sRet (eC (.bl true)))))
def g_is_made_of (c : Fn → DF) : DF := runF 2 3 (fb_is_made_of c)
def fb_is_helper (c : Fn → DF) : DS := (sSeq (sIf (tOr' (tNot' (tTru (eCB (isaD bl_os bl_xs) (aCons (eVar 0) (aCons (eC (.ty "str")) aNil))))) (tOr' (tNot' (tVal (eChn (pu2 leD) (pu2 leD) (eC (.int 2)) (eCB lenD (aCons (eVar 0) aNil)) (eC (.int 3))))) (tVal (eBin neE (eBin ixD (eVar 0) (eC (.int 0))) (eC (.str "h")))))) (sRet (eC (.bl false))) sNil) (sRet (eAnd (eCall (c .is_made_of) (aCons (eCut (eVar 0) (oSome (eC (.int 1))) oNone) (aCons (eC c_DIGITS) aNil))) (eBin neE (eBin ixD (eVar 0) (eC (.int 1))) (eC (.str "0"))))))
def g_is_helper (c : Fn → DF) : DF := runF 1 1 (fb_is_helper c)
def fb_unset_in_l0 (c : Fn → DF) : DS := (sIf (tAnd' (tTru (eCall (c .is_helper) (aCons (eVar 4) aNil))) (tVal (eBin (dinD true) (eVar 4) (eVar 1)))) (sDPutH (eVar 2) (eVar 4) (eC (.bl true))) sNil)
def fb_unset_in_l1 (c : Fn → DF) : DS := (sIf (tVal (eBin eqE (eBin ixD (eVar 5) (eC (.int 0))) (eC (.str "name")))) (sDPutH (eVar 1) (eBin ixD (eVar 5) (eC (.int 1))) (eC (.bl true))) sNil)
def fb_unset_in_l2 (c : Fn → DF) : DS := (sSeq (sFor (iSq (eCall (c .read_in) (aCons (eVar 3) aNil))) (gN 4) (fb_unset_in_l0 c)) (sSeq (sFor (iSq (eCall (c .places_in) (aCons (eVar 3) aNil))) (gN 5) (fb_unset_in_l1 c)) (sSeq (sIf (tVal (eBin eqE (eBin ixD (eVar 3) (eC (.int 0))) (eC (.str "while")))) (sExpr (eCall (c .unset_in) (aCons (eBin ixD (eVar 3) (eC (.int 3))) (aCons (eVar 1) (aCons (eVar 2) aNil))))) sNil) (sIf (tVal (eBin eqE (eBin ixD (eVar 3) (eC (.int 0))) (eC (.str "if")))) (sSeq (sAsg 6 (eCall (c .unset_in) (aCons (eBin ixD (eVar 3) (eC (.int 3))) (aCons (eVar 1) (aCons (eVar 2) aNil))))) (sSeq (sAsg 7 (eCall (c .unset_in) (aCons (eBin ixD (eVar 3) (eC (.int 4))) (aCons (eVar 1) (aCons (eVar 2) aNil))))) (sAsg 1 (eHdlN (nD (dDcV 6 (gN 4) (tVal (eBin (dinD false) (eVar 4) (eVar 7))) (eVar 4) (eC (.bl true)) [4])))))) sNil))))
def fb_unset_in (c : Fn → DF) : DS := (sSeq (sAsg 1 (eHdlN (nD (dCopy (aCons (eVar 1) aNil))))) (sSeq (sFor (iSq (eVar 0)) (gN 3) (fb_unset_in_l2 c)) (sRet (eVar 1))))
def g_unset_in (c : Fn → DF) : DF := runF 3 8 (fb_unset_in c)
def fb_has_form (c : Fn → DF) : DS := (sSeq (sIf (tOr' (tNot' (tTru (eCB (isaD bl_os bl_xs) (aCons (eVar 0) (aCons (eTup (aCons (eC (.ty "tuple")) (aCons (eC (.ty "list")) aNil))) aNil))))) (tVal (eBin neE (eCB lenD (aCons (eVar 0) aNil)) (eVar 2)))) (sRet (eC (.bl false))) sNil) (sRet (eAnd (eCB (isaD bl_os bl_xs) (aCons (eBin ixD (eVar 0) (eC (.int 0))) (aCons (eC (.ty "str")) aNil))) (eBin eqE (eBin ixD (eVar 0) (eC (.int 0))) (eVar 1)))))
def g_has_form (c : Fn → DF) : DF := runF 3 3 (fb_has_form c)
def fb_is_list_of_l0 (c : Fn → DF) : DS := (sIf (tNot' (tTru (eCallL (tbOf c tbl) 3 (aCons (eVar 4) aNil)))) (sRet (eC (.bl false))) sNil)
def fb_is_list_of (c : Fn → DF) : DS := (sSeq (sIf (tOr' (tNot' (tTru (eCB (isaD bl_os bl_xs) (aCons (eVar 0) (aCons (eTup (aCons (eC (.ty "tuple")) (aCons (eC (.ty "list")) aNil))) aNil))))) (tNot' (tVal (eChn (pu2 leD) (pu2 leD) (eVar 1) (eCB lenD (aCons (eVar 0) aNil)) (eVar 2))))) (sRet (eC (.bl false))) sNil) (sSeq (sFor (iSq (eVar 0)) (gN 4) (fb_is_list_of_l0 c)) (sRet (eC (.bl true)))))
def g_is_list_of (c : Fn → DF) : DF := runF 4 5 (fb_is_list_of c)
def fb_is_own_name (c : Fn → DF) : DS := (sRet (eAnd (eCall (c .is_made_of) (aCons (eVar 0) (aCons (eC c_LETTERS) aNil))) (eBin (inD true) (eVar 0) (eC c_RESERVED))))
def g_is_own_name (c : Fn → DF) : DF := runF 1 1 (fb_is_own_name c)
def fb_is_name (c : Fn → DF) : DS := (sRet (eOr (eCall (c .is_own_name) (aCons (eVar 0) aNil)) (eCall (c .is_helper) (aCons (eVar 0) aNil))))
def g_is_name (c : Fn → DF) : DF := runF 1 1 (fb_is_name c)
def fb_is_word (c : Fn → DF) : DS := (sRet (eCall (c .is_made_of) (aCons (eVar 0) (aCons (eBin addD (eC c_LETTERS) (eC c_DIGITS)) aNil))))
def g_is_word (c : Fn → DF) : DF := runF 1 1 (fb_is_word c)
def fb_is_sign (c : Fn → DF) : DS := (sRet (eAnd (eCall (c .is_own_name) (aCons (eVar 0) aNil)) (eBin neE (eVar 0) (eC (.str "split")))))
def g_is_sign (c : Fn → DF) : DF := runF 1 1 (fb_is_sign c)
def fb_is_expression (c : Fn → DF) : DS := (sSeq (sIf (tTru (eCall (c .has_form) (aCons (eVar 0) (aCons (eC (.str "name")) (aCons (eC (.int 2)) aNil))))) (sRet (eCall (c .is_name) (aCons (eBin ixD (eVar 0) (eC (.int 1))) aNil))) sNil) (sSeq (sIf (tTru (eCall (c .has_form) (aCons (eVar 0) (aCons (eC (.str "word")) (aCons (eC (.int 2)) aNil))))) (sRet (eCall (c .is_word) (aCons (eBin ixD (eVar 0) (eC (.int 1))) aNil))) sNil) (sSeq (sIf (tTru (eCall (c .has_form) (aCons (eVar 0) (aCons (eC (.str "call")) (aCons (eC (.int 3)) aNil))))) (sRet (eAnd (eCall (c .is_sign) (aCons (eBin ixD (eVar 0) (eC (.int 1))) aNil)) (eCall (c .is_list_of) (aCons (eBin ixD (eVar 0) (eC (.int 2))) (aCons (eC (.int 0)) (aCons (eC (.int 4)) (aCons (eC (.glo "is_expression")) aNil))))))) sNil) (sSeq (sIf (tOr' (tTru (eCall (c .has_form) (aCons (eVar 0) (aCons (eC (.str "item")) (aCons (eC (.int 3)) aNil))))) (tTru (eCall (c .has_form) (aCons (eVar 0) (aCons (eC (.str "slice")) (aCons (eC (.int 4)) aNil)))))) (sRet (eCall (c .is_list_of) (aCons (eCB listD (aCons (eCut (eVar 0) (oSome (eC (.int 1))) oNone) aNil)) (aCons (eC (.int 2)) (aCons (eC (.int 3)) (aCons (eC (.glo "is_expression")) aNil)))))) sNil) (sRet (eC (.bl false)))))))
def g_is_expression (c : Fn → DF) : DF := runF 1 1 (fb_is_expression c)
def fb_is_place (c : Fn → DF) : DS := (sRet (eAnd (eCall (c .is_expression) (aCons (eVar 0) aNil)) (eBin (inD false) (eBin ixD (eVar 0) (eC (.int 0))) (eTup (aCons (eC (.str "name")) (aCons (eC (.str "item")) (aCons (eC (.str "slice")) aNil)))))))
def g_is_place (c : Fn → DF) : DF := runF 1 1 (fb_is_place c)
def fb_is_many (c : Fn → DF) : DS := (sSeq (sIf (tOr' (tNot' (tTru (eCall (c .has_form) (aCons (eVar 0) (aCons (eC (.str "many")) (aCons (eC (.int 4)) aNil)))))) (tNot' (tTru (eCall (c .is_list_of) (aCons (eBin ixD (eVar 0) (eC (.int 1))) (aCons (eC (.int 2)) (aCons (eC (.int 4)) (aCons (eC (.glo "is_place")) aNil)))))))) (sRet (eC (.bl false))) sNil) (sSeq (sPar3 1 2 3 (aCons (eBin ixD (eVar 0) (eC (.int 1))) (aCons (eBin ixD (eVar 0) (eC (.int 2))) (aCons (eBin ixD (eVar 0) (eC (.int 3))) aNil)))) (sSeq (sIf (tNot' (tTru (eCall (c .is_list_of) (aCons (eVar 3) (aCons (eC (.int 1)) (aCons (eC (.int 4)) (aCons (eC (.glo "is_expression")) aNil))))))) (sRet (eC (.bl false))) sNil) (sSeq (sIf (tVal (eBin (pu2 (isD false)) (eVar 2) (eC .non))) (sRet (eBin (inD false) (eCB lenD (aCons (eVar 3) aNil)) (eTup (aCons (eC (.int 1)) (aCons (eCB lenD (aCons (eVar 1) aNil)) aNil))))) sNil) (sSeq (sIf (tOr' (tNot' (tTru (eCB (isaD bl_os bl_xs) (aCons (eVar 2) (aCons (eC (.ty "int")) aNil))))) (tTru (eCB (isaD bl_os bl_xs) (aCons (eVar 2) (aCons (eC (.ty "bool")) aNil))))) (sRet (eC (.bl false))) sNil) (sRet (eAnd (eBin eqE (eCB lenD (aCons (eVar 3) aNil)) (eC (.int 1))) (eChn (pu2 leD) (pu2 ltD) (eC (.int 0)) (eVar 2) (eCB lenD (aCons (eVar 1) aNil))))))))))
def g_is_many (c : Fn → DF) : DF := runF 1 4 (fb_is_many c)
def fb_is_simple_row (c : Fn → DF) : DS := (sSeq (sIf (tTru (eCall (c .has_form) (aCons (eVar 0) (aCons (eC (.str "do")) (aCons (eC (.int 2)) aNil))))) (sRet (eCall (c .is_expression) (aCons (eBin ixD (eVar 0) (eC (.int 1))) aNil))) sNil) (sSeq (sIf (tOr' (tTru (eCall (c .has_form) (aCons (eVar 0) (aCons (eC (.str "set")) (aCons (eC (.int 3)) aNil))))) (tTru (eCall (c .has_form) (aCons (eVar 0) (aCons (eC (.str "add")) (aCons (eC (.int 3)) aNil)))))) (sRet (eAnd (eCall (c .is_place) (aCons (eBin ixD (eVar 0) (eC (.int 1))) aNil)) (eCall (c .is_expression) (aCons (eBin ixD (eVar 0) (eC (.int 2))) aNil)))) sNil) (sSeq (sIf (tTru (eCall (c .has_form) (aCons (eVar 0) (aCons (eC (.str "exchange")) (aCons (eC (.int 3)) aNil))))) (sRet (eAnd (eCall (c .is_place) (aCons (eBin ixD (eVar 0) (eC (.int 1))) aNil)) (eCall (c .is_place) (aCons (eBin ixD (eVar 0) (eC (.int 2))) aNil)))) sNil) (sSeq (sIf (tTru (eCall (c .has_form) (aCons (eVar 0) (aCons (eC (.str "chain")) (aCons (eC (.int 3)) aNil))))) (sRet (eAnd (eCall (c .is_list_of) (aCons (eBin ixD (eVar 0) (eC (.int 1))) (aCons (eC (.int 2)) (aCons (eC (.int 4)) (aCons (eC (.glo "is_place")) aNil))))) (eCall (c .is_expression) (aCons (eBin ixD (eVar 0) (eC (.int 2))) aNil)))) sNil) (sRet (eCall (c .is_many) (aCons (eVar 0) aNil)))))))
def g_is_simple_row (c : Fn → DF) : DF := runF 1 1 (fb_is_simple_row c)
def fb_is_any (c : Fn → DF) : DS := (sRet (eC (.bl true)))
def g_is_any (c : Fn → DF) : DF := runF 1 1 (fb_is_any c)
def fb_is_operand (c : Fn → DF) : DS := (sRet (eAnd (eCall (c .is_expression) (aCons (eVar 0) aNil)) (eBin (inD false) (eBin ixD (eVar 0) (eC (.int 0))) (eTup (aCons (eC (.str "name")) (aCons (eC (.str "word")) aNil))))))
def g_is_operand (c : Fn → DF) : DF := runF 1 1 (fb_is_operand c)
def fb_blocks_of (c : Fn → DF) : DS := (sSeq (sIf (tTru (eCall (c .has_form) (aCons (eVar 0) (aCons (eC (.str "if")) (aCons (eC (.int 5)) aNil))))) (sIf (tNot' (tTru (eCall (c .is_list_of) (aCons (eBin ixD (eVar 0) (eC (.int 4))) (aCons (eC (.int 0)) (aCons (eC (.int 10000)) (aCons (eC (.glo "is_any")) aNil))))))) (sRet (eC .non)) sNil) (sIf (tNot' (tTru (eCall (c .has_form) (aCons (eVar 0) (aCons (eC (.str "while")) (aCons (eC (.int 4)) aNil)))))) (sRet (eC .non)) sNil)) (sSeq (sIf (tOr' (tNot' (tTru (eCall (c .is_sign) (aCons (eBin ixD (eVar 0) (eC (.int 1))) aNil)))) (tNot' (tTru (eCall (c .is_list_of) (aCons (eBin ixD (eVar 0) (eC (.int 2))) (aCons (eC (.int 0)) (aCons (eC (.int 4)) (aCons (eC (.glo "is_operand")) aNil)))))))) (sRet (eC .non)) sNil) (sSeq (sIf (tNot' (tTru (eCall (c .is_list_of) (aCons (eBin ixD (eVar 0) (eC (.int 3))) (aCons (eC (.int 1)) (aCons (eC (.int 10000)) (aCons (eC (.glo "is_any")) aNil))))))) (sRet (eC .non)) sNil) (sRet (eCB tupleD (aCons (eCut (eVar 0) (oSome (eC (.int 3))) oNone) aNil))))))
def g_blocks_of (c : Fn → DF) : DF := runF 1 1 (fb_blocks_of c)
def fb_fault_in_l0 (c : Fn → DF) : DS := (sSeq (sAsg 4 (eCall (c .first_fault) (aCons (eVar 3) aNil))) (sIf (tVal (eBin (pu2 (isD true)) (eVar 4) (eC .non))) (sRet (eBin addD (eTup (aCons (eVar 2) aNil)) (eVar 4))) sNil))
def fb_fault_in (c : Fn → DF) : DS := (sSeq (sIf (tTru (eCall (c .is_simple_row) (aCons (eVar 0) aNil))) (sRet (eC .non)) sNil) (sSeq (sAsg 1 (eCall (c .blocks_of) (aCons (eVar 0) aNil))) (sSeq (sIf (tVal (eBin (pu2 (isD false)) (eVar 1) (eC .non))) (sRet (eTup aNil)) sNil) (sSeq (sFor (iEnum' (aCons (eVar 1) aNil)) (gT (gsCons (gN 2) (gsCons (gN 3) gsNil))) (fb_fault_in_l0 c)) (sRet (eC .non))))))
def g_fault_in (c : Fn → DF) : DF := runF 1 5 (fb_fault_in c)
def fb_first_fault_l0 (c : Fn → DF) : DS := (sSeq (sAsg 3 (eCall (c .fault_in) (aCons (eVar 2) aNil))) (sIf (tVal (eBin (pu2 (isD true)) (eVar 3) (eC .non))) (sRet (eBin addD (eTup (aCons (eVar 1) aNil)) (eVar 3))) sNil))
def fb_first_fault (c : Fn → DF) : DS := (sSeq (sFor (iEnum' (aCons (eVar 0) aNil)) (gT (gsCons (gN 1) (gsCons (gN 2) gsNil))) (fb_first_fault_l0 c)) (sRet (eC .non)))
def g_first_fault (c : Fn → DF) : DF := runF 1 4 (fb_first_fault c)
def fb_helper_number (c : Fn → DF) : DS := (sRet (eCB intD2 (aCons (eCut (eVar 0) (oSome (eC (.int 1))) oNone) aNil)))
def g_helper_number (c : Fn → DF) : DF := runF 1 1 (fb_helper_number c)
def fb_Program_init (c : Fn → DF) : DS := (sSeq (sAsg 2 (eTup aNil)) (sSeq (sIf (tTru (eCB (isaD bl_os bl_xs) (aCons (eVar 1) (aCons (eTup (aCons (eC (.ty "tuple")) (aCons (eC (.ty "list")) aNil))) aNil)))) (sAsg 2 (eCall (c .first_fault) (aCons (eVar 1) aNil))) sNil) (sSeq (sIf (tVal (eBin (pu2 (isD true)) (eVar 2) (eC .non))) (sRaise (c .BadRow_init) "BadRow" ["path"] (aCons (eVar 2) aNil)) sNil) (sSeq (sFldH "Program" "held" (eVar 0) (eCall (c .as_tuples) (aCons (eVar 1) aNil))) (sSeq (sAsg 3 (eHdlN (nD dNil))) (sSeq (sExpr (eCall (c .unset_in) (aCons (eFld "Program" "held" (eVar 0)) (aCons (eFrzD dNil) (aCons (eVar 3) aNil))))) (sIf (tTru (eVar 3)) (sRaise (c .Unset_init) "Unset" ["name"] (aCons (eBin ixD (eFrz (fSrtKey (c .helper_number) (aCons (eVar 3) aNil))) (eC (.int 0))) aNil)) sNil)))))))
def g_Program_init (c : Fn → DF) : DF := runF 2 4 (fb_Program_init c)
def fb_l_take (c : Fn → DF) : DS := (sSeq (sIf (tVal (eBin eqE (eBin ixD (eVar 0) (eC (.int 0))) (eC (.int 0)))) (sSeq (sAsg 2 (eC (.int 0))) (sSeq (sIf (tVal (eBin (pu2 ltD) (eBin ixD (eVar 0) (eC (.int 2))) (eCB lenD (aCons (eBin ixD (eVar 0) (eC (.int 3))) aNil)))) (sAsg 2 (eBin ixD (eBin ixD (eVar 0) (eC (.int 3))) (eBin ixD (eVar 0) (eC (.int 2))))) sNil) (sSeq (sAugI addI (eVar 0) (eC (.int 2)) (eC (.int 1))) (sSeq (sIf (tVal (eBin (pu2 geD) (eVar 2) (eC (.int 1000000000000000000)))) (sSetI (eVar 0) (eC (.int 0)) (eVar 2)) sNil) (sSeq (sAsg 3 (eBin addD (eBin addD (eBin (pu2 mulD) (eBin ixD (eVar 0) (eC (.int 1))) (eC (.int 48271))) (eBin (pu2 modD) (eCB intD2 (aCons (eVar 2) aNil)) (eC (.int 2147483647)))) (eBin (pu2 mulD) (eC (.int 7919)) (eBin ixD (eVar 0) (eC (.int 2)))))) (sSetI (eVar 0) (eC (.int 1)) (eBin (pu2 modD) (eCB intD2 (aCons (eVar 3) aNil)) (eC (.int 2147483647))))))))) sNil) (sSeq (sIf (tVal (eBin (pu2 gtD) (eBin ixD (eVar 0) (eC (.int 0))) (eC (.int 0)))) (sSeq (sAsg 4 (eBin (pu2 modD) (eCB intD2 (aCons (eBin ixD (eVar 0) (eC (.int 0))) aNil)) (eVar 1))) (sSeq (sSetI (eVar 0) (eC (.int 0)) (eBin (pu2 fdivD) (eCB intD2 (aCons (eBin ixD (eVar 0) (eC (.int 0))) aNil)) (eVar 1))) (sRet (eVar 4)))) sNil) (sSeq (sAsg 5 (eBin (pu2 modD) (eCB intD2 (aCons (eBin (pu2 mulD) (eBin addD (eBin ixD (eVar 0) (eC (.int 1))) (eC (.int 1))) (eC (.int 39373))) aNil)) (eC (.int 1000000007)))) (sSeq (sAsg 6 (eBin (pu2 modD) (eCB intD2 (aCons (eBin (pu2 mulD) (eBin (pu2 modD) (eCB intD2 (aCons (eBin (pu2 mulD) (eVar 5) (eVar 5)) aNil)) (eC (.int 998244353))) (eC (.int 30011))) aNil)) (eC (.int 998244353)))) (sRet (eBin (pu2 modD) (eCB intD2 (aCons (eBin (pu2 fdivD) (eVar 6) (eC (.int 7))) aNil)) (eVar 1)))))))
def g_l_take (c : Fn → DF) : DF := runF 2 7 (fb_l_take c)
def fb_l_one (c : Fn → DF) : DS := (sRet (eBin ixD (eVar 1) (eCall (c .l_take) (aCons (eVar 0) (aCons (eCB lenD (aCons (eVar 1) aNil)) aNil)))))
def g_l_one (c : Fn → DF) : DF := runF 2 2 (fb_l_one c)
def fb_l_kept (c : Fn → DF) : DS := (sSeq (sAsg 1 (eCall (c .l_one) (aCons (eVar 0) (aCons (eFrz (fLst (aCons (eC (.str "do")) (aCons (eC (.str "if")) (aCons (eC (.str "else")) (aCons (eC (.str "while")) (aCons (eC (.str "end")) (aCons (eC (.str "split")) (aCons (eC (.str "split2")) (aCons (eC (.str "add")) aNil)))))))))) aNil)))) (sRet (eBin ixD (eFrz (fLst (aCons (eVar 1) (aCons (eBin addD (eVar 1) (eC (.str "s"))) (aCons (eCut (eVar 1) oNone (oSome (eNeg (eC (.int 1))))) (aCons (eUp (eVar 1)) (aCons (eBin addD (eC (.str " ")) (eVar 1)) (aCons (eBin addD (eVar 1) (eC (.str " "))) (aCons (eBin addD (eVar 1) (eC (.str "1"))) aNil))))))))) (eCall (c .l_take) (aCons (eVar 0) (aCons (eC (.int 7)) aNil))))))
def g_l_kept (c : Fn → DF) : DF := runF 1 2 (fb_l_kept c)
def fb_l_near (c : Fn → DF) : DS := (sSeq (sAsg 1 (eCall (c .l_take) (aCons (eVar 0) (aCons (eC (.int 102)) aNil)))) (sRet (eBin addD (eBin ixD (eFrz (fLst (aCons (eC (.str "h")) (aCons (eC (.str "h")) (aCons (eC (.str "h")) (aCons (eC (.str "H")) (aCons (eC (.str "k")) (aCons (eC (.str "hh")) (aCons (eC (.str "h0")) aNil))))))))) (eCall (c .l_take) (aCons (eVar 0) (aCons (eC (.int 7)) aNil)))) (eCB strD (aCons (eVar 1) aNil)))))
def g_l_near (c : Fn → DF) : DF := runF 1 2 (fb_l_near c)
def fb_l_lower (c : Fn → DF) : DS := (sSeq (sAsg 1 (eBin addD (eC (.int 1)) (eCall (c .l_take) (aCons (eVar 0) (aCons (eC (.int 9)) aNil))))) (sRet (eStrM joinD (eC (.str "")) (aCons (eFrz (fLc (iRng1' (aCons (eVar 1) aNil)) (gN 2) tTrue (eBin ixD (eC (.str "abcdefghijklmnopqrstuvwxyz")) (eCall (c .l_take) (aCons (eVar 0) (aCons (eC (.int 26)) aNil)))) [2])) aNil))))
def g_l_lower (c : Fn → DF) : DF := runF 1 3 (fb_l_lower c)
def fb_l_string (c : Fn → DF) : DS := (sSeq (sAsg 1 (eC (.str "abcdehilnostwz0159ABZ_' h"))) (sSeq (sAsg 2 (eCall (c .l_take) (aCons (eVar 0) (aCons (eC (.int 10)) aNil)))) (sRet (eStrM joinD (eC (.str "")) (aCons (eFrz (fLc (iRng1' (aCons (eVar 2) aNil)) (gN 3) tTrue (eBin ixD (eVar 1) (eCall (c .l_take) (aCons (eVar 0) (aCons (eC (.int 25)) aNil)))) [3])) aNil)))))
def g_l_string (c : Fn → DF) : DF := runF 1 4 (fb_l_string c)
def fb_l_thing (c : Fn → DF) : DS := (sSeq (sAsg 1 (eCall (c .l_take) (aCons (eVar 0) (aCons (eC (.int 6)) aNil)))) (sSeq (sIf (tVal (eBin eqE (eVar 1) (eC (.int 0)))) (sSeq (sAsg 2 (eFrz (fLst (aCons (eC .non) (aCons (eC (.bl true)) (aCons (eC (.int 0)) (aCons (eC (.int 7)) (aCons (eTup (aCons (eC (.str "a")) aNil)) (aCons (eFrz (fLst (aCons (eC (.str "a")) aNil))) (aCons (eFrzD (dDisp (pCons (eC (.str "a")) (eC (.int 0)) pNil))) (aCons (eTup aNil) (aCons (eC (.str "")) (aCons (eFrz (fLst (aCons (eC (.str "h")) (aCons (eC (.str "1")) aNil)))) (aCons (eTup (aCons (eC (.str "name")) (aCons (eC (.str "a")) aNil))) aNil)))))))))))))) (sSeq (sAsg 2 (eBin addD (eVar 2) (eFrz (fLst (aCons (eC (.str "h+1")) (aCons (eC (.str "h-1")) (aCons (eC (.str "h1\n")) (aCons (eC (.str "a\n")) (aCons (eC (.str "+")) (aCons (eC (.str "h 1")) (aCons (eC (.str "h1 ")) (aCons (eBin addD (eC (.str "h")) (eBin mulSD (eC (.str "9")) (eC (.int 5000)))) (aCons (eBin mulSD (eC (.str "h1")) (eC (.int 900))) aNil))))))))))))) (sRet (eCall (c .l_one) (aCons (eVar 0) (aCons (eVar 2) aNil)))))) sNil) (sSeq (sIf (tVal (eBin eqE (eVar 1) (eC (.int 1)))) (sRet (eCall (c .l_kept) (aCons (eVar 0) aNil))) sNil) (sSeq (sIf (tVal (eBin eqE (eVar 1) (eC (.int 2)))) (sRet (eCall (c .l_near) (aCons (eVar 0) aNil))) sNil) (sRet (eIf (tVal (eBin eqE (eVar 1) (eC (.int 3)))) (eCall (c .l_lower) (aCons (eVar 0) aNil)) (eCall (c .l_string) (aCons (eVar 0) aNil))))))))
def g_l_thing (c : Fn → DF) : DF := runF 1 3 (fb_l_thing c)
def fb_l_all_in (c : Fn → DF) : DS := (sRet (eBin eqE (eFrz (fLc (iSq (eVar 0)) (gN 2) (tVal (eBin (inD true) (eVar 2) (eVar 1))) (eVar 2) [2])) (eFrz (fLst aNil))))
def g_l_all_in (c : Fn → DF) : DF := runF 2 3 (fb_l_all_in c)
def fb_l_due (c : Fn → DF) : DS := (sSeq (sAsgG (gT (gsCons (gN 1) (gsCons (gN 2) gsNil))) (eTup (aCons (eC (.str "abcdefghijklmnopqrstuvwxyz")) (aCons (eC (.str "0123456789")) aNil)))) (sSeq (sIf (tOr' (tNot' (tTru (eCB (isaD bl_os bl_xs) (aCons (eVar 0) (aCons (eC (.ty "str")) aNil))))) (tVal (eRngIn true (eCB lenD (aCons (eVar 0) aNil)) (aCons (eC (.int 1)) (aCons (eC (.int 9)) aNil))))) (sRet (eFrz (fLst (aCons (eC (.bl false)) (aCons (eC (.bl false)) (aCons (eC (.bl false)) (aCons (eC (.bl false)) aNil))))))) sNil) (sSeq (sAsg 3 (eAnd (eCall (c .l_all_in) (aCons (eVar 0) (aCons (eVar 1) aNil))) (eBin (inD true) (eVar 0) (eTup (aCons (eC (.str "do")) (aCons (eC (.str "if")) (aCons (eC (.str "else")) (aCons (eC (.str "while")) (aCons (eC (.str "end")) aNil))))))))) (sSeq (sAsg 4 (eAnd (eBin eqE (eBin ixD (eVar 0) (eC (.int 0))) (eC (.str "h"))) (eBin (inD false) (eCut (eVar 0) (oSome (eC (.int 1))) oNone) (eFrz (fLc (iRng2' (aCons (eC (.int 1)) (aCons (eC (.int 100)) aNil))) (gN 5) tTrue (eCB strD (aCons (eVar 5) aNil)) [5]))))) (sRet (eFrz (fLst (aCons (eVar 3) (aCons (eVar 4) (aCons (eCall (c .l_all_in) (aCons (eVar 0) (aCons (eBin addD (eVar 1) (eVar 2)) aNil))) (aCons (eAnd (eVar 3) (eBin neE (eVar 0) (eC (.str "split")))) aNil)))))))))))
def g_l_due (c : Fn → DF) : DF := runF 1 6 (fb_l_due c)
def fb_law_l0 (c : Fn → DF) : DS := (sSeq (sAsg 3 (eCall (c .l_thing) (aCons (eVar 1) aNil))) (sSeq (sPar 4 5 (aCons (eCall (c .l_due) (aCons (eVar 3) aNil)) (aCons (eCB reprD (aCons (eVar 3) aNil)) aNil))) (sSeq (sAsg 6 (eFrz (fLst (aCons (eCall (c .is_own_name) (aCons (eVar 3) aNil)) (aCons (eCall (c .is_helper) (aCons (eVar 3) aNil)) (aCons (eCall (c .is_word) (aCons (eVar 3) aNil)) (aCons (eCall (c .is_sign) (aCons (eVar 3) aNil)) aNil))))))) (sIf (tOr' (tVal (eBin neE (eVar 6) (eVar 4))) (tOr' (tVal (eBin neE (eFrz (fLc (iSq (eVar 6)) (gN 7) (tNot' (tTru (eCB (isaD bl_os bl_xs) (aCons (eVar 7) (aCons (eC (.ty "bool")) aNil))))) (eVar 7) [7])) (eFrz (fLst aNil)))) (tVal (eBin neE (eCB reprD (aCons (eVar 3) aNil)) (eVar 5))))) (sRet (eC (.bl false))) sNil))))
def fb_law_l1 (c : Fn → DF) : DS := (sIf (tVal (eBin neE (eFrz (fLst (aCons (eCall (c .is_own_name) (aCons (eVar 3) aNil)) (aCons (eCall (c .is_helper) (aCons (eVar 3) aNil)) (aCons (eCall (c .is_word) (aCons (eVar 3) aNil)) (aCons (eCall (c .is_sign) (aCons (eVar 3) aNil)) aNil)))))) (eBin repD (eFrz (fLst (aCons (eC (.bl false)) aNil))) (eC (.int 4))))) (sRet (eC (.bl false))) sNil)
def fb_law_l2 (c : Fn → DF) : DS := (sIf (tOr' (tNot' (tTru (eCall (c .is_helper) (aCons (eBin addD (eC (.str "h")) (eCB strD (aCons (eVar 7) aNil))) aNil)))) (tTru (eCall (c .is_own_name) (aCons (eBin addD (eC (.str "h")) (eCB strD (aCons (eVar 7) aNil))) aNil)))) (sRet (eC (.bl false))) sNil)
def fb_law (c : Fn → DF) : DS := (sSeq (sAsg 1 (eCall (c .l_bag) (aCons (eVar 0) aNil))) (sSeq (sFor (iRng1' (aCons (eC (.int 40)) aNil)) (gN 2) (fb_law_l0 c)) (sSeq (sFor (iSq (eTup (aCons (eMk "Program" dl_Program_1 (c .Program_init) (aCons (eFrz (fLst aNil)) aNil)) (aCons (eExc (c .Unset_init) "Unset" ["name"] (aCons (eC (.str "h1")) aNil)) (aCons (eFrz (fLst (aCons (eMk "Program" dl_Program_1 (c .Program_init) (aCons (eFrz (fLst aNil)) aNil)) aNil))) aNil))))) (gN 3) (fb_law_l1 c)) (sSeq (sFor (iRng2' (aCons (eC (.int 1)) (aCons (eC (.int 100)) aNil))) (gN 7) (fb_law_l2 c)) (sRet (eC (.bl true)))))))
def g_law (c : Fn → DF) : DF := runF 1 8 (fb_law c)
def step (c : Fn → DF) : Fn → DF
  | .l_bag => g_l_bag c
  | .BadRow_init => g_BadRow_init c
  | .Unset_init => g_Unset_init c
  | .as_tuples => g_as_tuples c
  | .values_in => g_values_in c
  | .places_in => g_places_in c
  | .parts_of => g_parts_of c
  | .all_names => g_all_names c
  | .read_in => g_read_in c
  | .is_made_of => g_is_made_of c
  | .is_helper => g_is_helper c
  | .unset_in => g_unset_in c
  | .has_form => g_has_form c
  | .is_list_of => g_is_list_of c
  | .is_own_name => g_is_own_name c
  | .is_name => g_is_name c
  | .is_word => g_is_word c
  | .is_sign => g_is_sign c
  | .is_expression => g_is_expression c
  | .is_place => g_is_place c
  | .is_many => g_is_many c
  | .is_simple_row => g_is_simple_row c
  | .is_any => g_is_any c
  | .is_operand => g_is_operand c
  | .blocks_of => g_blocks_of c
  | .fault_in => g_fault_in c
  | .first_fault => g_first_fault c
  | .helper_number => g_helper_number c
  | .Program_init => g_Program_init c
  | .l_take => g_l_take c
  | .l_one => g_l_one c
  | .l_kept => g_l_kept c
  | .l_near => g_l_near c
  | .l_lower => g_l_lower c
  | .l_string => g_l_string c
  | .l_thing => g_l_thing c
  | .l_all_in => g_l_all_in c
  | .l_due => g_l_due c
  | .law => g_law c
def calls : Nat → Fn → DF
  | 0 => fun _ => gNo
  | n + 1 => step (calls n)
theorem ev_l_bag (n : Nat) (S : Sto) (a0 : Dv) : calls (n + 1) .l_bag S [a0] = kRun (fb_l_bag (calls n) [.va a0, .no] S) := ev_run S [a0] (fb_l_bag (calls n)) 1 2 rfl
theorem ev_is_made_of (n : Nat) (S : Sto) (a0 a1 : Dv) : calls (n + 1) .is_made_of S [a0, a1] = kRun (fb_is_made_of (calls n) [.va a0, .va a1, .no] S) := ev_run S [a0, a1] (fb_is_made_of (calls n)) 2 3 rfl
theorem ev_is_helper (n : Nat) (S : Sto) (a0 : Dv) : calls (n + 1) .is_helper S [a0] = kRun (fb_is_helper (calls n) [.va a0] S) := ev_run S [a0] (fb_is_helper (calls n)) 1 1 rfl
theorem ev_is_own_name (n : Nat) (S : Sto) (a0 : Dv) : calls (n + 1) .is_own_name S [a0] = kRun (fb_is_own_name (calls n) [.va a0] S) := ev_run S [a0] (fb_is_own_name (calls n)) 1 1 rfl
theorem ev_is_word (n : Nat) (S : Sto) (a0 : Dv) : calls (n + 1) .is_word S [a0] = kRun (fb_is_word (calls n) [.va a0] S) := ev_run S [a0] (fb_is_word (calls n)) 1 1 rfl
theorem ev_is_sign (n : Nat) (S : Sto) (a0 : Dv) : calls (n + 1) .is_sign S [a0] = kRun (fb_is_sign (calls n) [.va a0] S) := ev_run S [a0] (fb_is_sign (calls n)) 1 1 rfl
theorem ev_l_take (n : Nat) (S : Sto) (a0 a1 : Dv) : calls (n + 1) .l_take S [a0, a1] = kRun (fb_l_take (calls n) [.va a0, .va a1, .no, .no, .no, .no, .no] S) := ev_run S [a0, a1] (fb_l_take (calls n)) 2 7 rfl
theorem ev_l_one (n : Nat) (S : Sto) (a0 a1 : Dv) : calls (n + 1) .l_one S [a0, a1] = kRun (fb_l_one (calls n) [.va a0, .va a1] S) := ev_run S [a0, a1] (fb_l_one (calls n)) 2 2 rfl
theorem ev_l_kept (n : Nat) (S : Sto) (a0 : Dv) : calls (n + 1) .l_kept S [a0] = kRun (fb_l_kept (calls n) [.va a0, .no] S) := ev_run S [a0] (fb_l_kept (calls n)) 1 2 rfl
theorem ev_l_near (n : Nat) (S : Sto) (a0 : Dv) : calls (n + 1) .l_near S [a0] = kRun (fb_l_near (calls n) [.va a0, .no] S) := ev_run S [a0] (fb_l_near (calls n)) 1 2 rfl
theorem ev_l_lower (n : Nat) (S : Sto) (a0 : Dv) : calls (n + 1) .l_lower S [a0] = kRun (fb_l_lower (calls n) [.va a0, .no, .no] S) := ev_run S [a0] (fb_l_lower (calls n)) 1 3 rfl
theorem ev_l_string (n : Nat) (S : Sto) (a0 : Dv) : calls (n + 1) .l_string S [a0] = kRun (fb_l_string (calls n) [.va a0, .no, .no, .no] S) := ev_run S [a0] (fb_l_string (calls n)) 1 4 rfl
theorem ev_l_thing (n : Nat) (S : Sto) (a0 : Dv) : calls (n + 1) .l_thing S [a0] = kRun (fb_l_thing (calls n) [.va a0, .no, .no] S) := ev_run S [a0] (fb_l_thing (calls n)) 1 3 rfl
theorem ev_l_all_in (n : Nat) (S : Sto) (a0 a1 : Dv) : calls (n + 1) .l_all_in S [a0, a1] = kRun (fb_l_all_in (calls n) [.va a0, .va a1, .no] S) := ev_run S [a0, a1] (fb_l_all_in (calls n)) 2 3 rfl
theorem ev_l_due (n : Nat) (S : Sto) (a0 : Dv) : calls (n + 1) .l_due S [a0] = kRun (fb_l_due (calls n) [.va a0, .no, .no, .no, .no, .no] S) := ev_run S [a0] (fb_l_due (calls n)) 1 6 rfl
theorem ev_law (n : Nat) (S : Sto) (a0 : Dv) : calls (n + 1) .law S [a0] = kRun (fb_law (calls n) [.va a0, .no, .no, .no, .no, .no, .no, .no] S) := ev_run S [a0] (fb_law (calls n)) 1 8 rfl
end DL
namespace DL
open PySem L2
def dnA : Nat → List Addr
  | 0 => [0]
  | n + 1 => (n + 1) :: dnA n
def adA (m : Nat) : List Addr := 3 :: 2 :: dnA m
def obsNA (m : Nat) (fa : List Ft) (fn : List Dfn) (ts : List He.Tab) (g : Addr → Option Obj) : AlN := obsN fa fn ts (He.frG g (adA m))
def hookA (m : Nat) (fa : List Ft) (fn : List Dfn) (ts : List He.Tab) : PySem.W.Hook where
  α := AlN
  obs := fun s => obsNA m fa fn ts s.heap.get?
  val := fun w => valN fn ts w
  says := fun w h => ∃ K : PySem.W.Frag, K.In h ∧ SaysN fa fn ts w K
  of := fun _ _ e => ⟨_, He.frG_in, e⟩
  keeps := fun _ _ _ ⟨K, hK, c⟩ k => ⟨K, PySem.W.Frag.In.keeps hK k, c⟩
theorem obsNA_eq {m : Nat} {fa : List Ft} {fn : List Dfn} {ts : List He.Tab} {g : Addr → Option Obj} {s : Shared} (h : ∀ a, g a = s.heap.get? a) : obsNA m fa fn ts g = (hookA m fa fn ts).obs s := by
  have e : g = s.heap.get? := funext h
  rw [e] <;> rfl
end DL
namespace Row
open PySem L2 DL
def top (i : Nat) : Stmt := PySem.Challenge.pw_foundtwice_k12_names_words_and_signs.main.body.getD i (.Pass ⟨0, 0, 0, 0⟩)
def inr (i j : Nat) : Stmt := match top i with
  | .ClassDef _ _ _ body _ _ _ _ _ _ _ => body.getD j (.Pass ⟨0, 0, 0, 0⟩)
  | s => s
abbrev st_l_bag : Stmt := top 41
theorem sc_l_bag : FnScope ["_law_script", "_law_cell"] ["_law_script"] (defScope st_l_bag) := ⟨rfl, rfl, rfl, by decide +kernel, rfl, by decide +kernel, by decide +kernel⟩
theorem bi_l_bag : BindN "_law_bag" "_law_bag" st_l_bag ["_law_script"] := fun _ _ _ _ _ _ us hl => match us, hl with | [_], _ => rfl
abbrev st_BadRow_init : Stmt := inr 28 0
theorem sc_BadRow_init : FnScope ["self", "path"] ["self", "path"] (defScope st_BadRow_init) := ⟨rfl, rfl, rfl, by decide +kernel, rfl, by decide +kernel, by decide +kernel⟩
theorem bi_BadRow_init : BindN "__init__" "BadRow.__init__" st_BadRow_init ["self", "path"] := fun _ _ _ _ _ _ us hl => match us, hl with | [_, _], _ => rfl
abbrev st_Unset_init : Stmt := inr 29 0
theorem sc_Unset_init : FnScope ["self", "name"] ["self", "name"] (defScope st_Unset_init) := ⟨rfl, rfl, rfl, by decide +kernel, rfl, by decide +kernel, by decide +kernel⟩
theorem bi_Unset_init : BindN "__init__" "Unset.__init__" st_Unset_init ["self", "name"] := fun _ _ _ _ _ _ us hl => match us, hl with | [_, _], _ => rfl
abbrev st_as_tuples : Stmt := top 22
theorem sc_as_tuples : FnScope ["thing", "member"] ["thing"] (defScope st_as_tuples) := ⟨rfl, rfl, rfl, by decide +kernel, rfl, by decide +kernel, by decide +kernel⟩
theorem bi_as_tuples : BindN "as_tuples" "as_tuples" st_as_tuples ["thing"] := fun _ _ _ _ _ _ us hl => match us, hl with | [_], _ => rfl
abbrev st_values_in : Stmt := top 35
theorem sc_values_in : FnScope ["row"] ["row"] (defScope st_values_in) := ⟨rfl, rfl, rfl, by decide +kernel, rfl, by decide +kernel, by decide +kernel⟩
theorem bi_values_in : BindN "values_in" "values_in" st_values_in ["row"] := fun _ _ _ _ _ _ us hl => match us, hl with | [_], _ => rfl
abbrev st_places_in : Stmt := top 34
theorem sc_places_in : FnScope ["row"] ["row"] (defScope st_places_in) := ⟨rfl, rfl, rfl, by decide +kernel, rfl, by decide +kernel, by decide +kernel⟩
theorem bi_places_in : BindN "places_in" "places_in" st_places_in ["row"] := fun _ _ _ _ _ _ us hl => match us, hl with | [_], _ => rfl
abbrev st_parts_of : Stmt := top 23
theorem sc_parts_of : FnScope ["expression"] ["expression"] (defScope st_parts_of) := ⟨rfl, rfl, rfl, by decide +kernel, rfl, by decide +kernel, by decide +kernel⟩
theorem bi_parts_of : BindN "parts_of" "parts_of" st_parts_of ["expression"] := fun _ _ _ _ _ _ us hl => match us, hl with | [_], _ => rfl
abbrev st_all_names : Stmt := top 24
theorem sc_all_names : FnScope ["expression", "found", "part"] ["expression"] (defScope st_all_names) := ⟨rfl, rfl, rfl, by decide +kernel, rfl, by decide +kernel, by decide +kernel⟩
theorem bi_all_names : BindN "all_names" "all_names" st_all_names ["expression"] := fun _ _ _ _ _ _ us hl => match us, hl with | [_], _ => rfl
abbrev st_read_in : Stmt := top 36
theorem sc_read_in : FnScope ["row", "found", "value", "place"] ["row"] (defScope st_read_in) := ⟨rfl, rfl, rfl, by decide +kernel, rfl, by decide +kernel, by decide +kernel⟩
theorem bi_read_in : BindN "read_in" "read_in" st_read_in ["row"] := fun _ _ _ _ _ _ us hl => match us, hl with | [_], _ => rfl
abbrev st_is_made_of : Stmt := top 5
theorem sc_is_made_of : FnScope ["thing", "letters", "letter"] ["thing", "letters"] (defScope st_is_made_of) := ⟨rfl, rfl, rfl, by decide +kernel, rfl, by decide +kernel, by decide +kernel⟩
theorem bi_is_made_of : BindN "is_made_of" "is_made_of" st_is_made_of ["thing", "letters"] := fun _ _ _ _ _ _ us hl => match us, hl with | [_, _], _ => rfl
abbrev st_is_helper : Stmt := top 7
theorem sc_is_helper : FnScope ["thing"] ["thing"] (defScope st_is_helper) := ⟨rfl, rfl, rfl, by decide +kernel, rfl, by decide +kernel, by decide +kernel⟩
theorem bi_is_helper : BindN "is_helper" "is_helper" st_is_helper ["thing"] := fun _ _ _ _ _ _ us hl => match us, hl with | [_], _ => rfl
abbrev st_unset_in : Stmt := top 37
theorem sc_unset_in : FnScope ["rows", "written", "missing", "row", "name", "place", "one", "other"] ["rows", "written", "missing"] (defScope st_unset_in) := ⟨rfl, rfl, rfl, by decide +kernel, rfl, by decide +kernel, by decide +kernel⟩
theorem bi_unset_in : BindN "unset_in" "unset_in" st_unset_in ["rows", "written", "missing"] := fun _ _ _ _ _ _ us hl => match us, hl with | [_, _, _], _ => rfl
abbrev st_has_form : Stmt := top 12
theorem sc_has_form : FnScope ["thing", "kind", "many"] ["thing", "kind", "many"] (defScope st_has_form) := ⟨rfl, rfl, rfl, by decide +kernel, rfl, by decide +kernel, by decide +kernel⟩
theorem bi_has_form : BindN "has_form" "has_form" st_has_form ["thing", "kind", "many"] := fun _ _ _ _ _ _ us hl => match us, hl with | [_, _, _], _ => rfl
abbrev st_is_list_of : Stmt := top 11
theorem sc_is_list_of : FnScope ["thing", "least", "most", "fits", "member"] ["thing", "least", "most", "fits"] (defScope st_is_list_of) := ⟨rfl, rfl, rfl, by decide +kernel, rfl, by decide +kernel, by decide +kernel⟩
theorem bi_is_list_of : BindN "is_list_of" "is_list_of" st_is_list_of ["thing", "least", "most", "fits"] := fun _ _ _ _ _ _ us hl => match us, hl with | [_, _, _, _], _ => rfl
abbrev st_is_own_name : Stmt := top 6
theorem sc_is_own_name : FnScope ["thing"] ["thing"] (defScope st_is_own_name) := ⟨rfl, rfl, rfl, by decide +kernel, rfl, by decide +kernel, by decide +kernel⟩
theorem bi_is_own_name : BindN "is_own_name" "is_own_name" st_is_own_name ["thing"] := fun _ _ _ _ _ _ us hl => match us, hl with | [_], _ => rfl
abbrev st_is_name : Stmt := top 8
theorem sc_is_name : FnScope ["thing"] ["thing"] (defScope st_is_name) := ⟨rfl, rfl, rfl, by decide +kernel, rfl, by decide +kernel, by decide +kernel⟩
theorem bi_is_name : BindN "is_name" "is_name" st_is_name ["thing"] := fun _ _ _ _ _ _ us hl => match us, hl with | [_], _ => rfl
abbrev st_is_word : Stmt := top 9
theorem sc_is_word : FnScope ["thing"] ["thing"] (defScope st_is_word) := ⟨rfl, rfl, rfl, by decide +kernel, rfl, by decide +kernel, by decide +kernel⟩
theorem bi_is_word : BindN "is_word" "is_word" st_is_word ["thing"] := fun _ _ _ _ _ _ us hl => match us, hl with | [_], _ => rfl
abbrev st_is_sign : Stmt := top 10
theorem sc_is_sign : FnScope ["thing"] ["thing"] (defScope st_is_sign) := ⟨rfl, rfl, rfl, by decide +kernel, rfl, by decide +kernel, by decide +kernel⟩
theorem bi_is_sign : BindN "is_sign" "is_sign" st_is_sign ["thing"] := fun _ _ _ _ _ _ us hl => match us, hl with | [_], _ => rfl
abbrev st_is_expression : Stmt := top 13
theorem sc_is_expression : FnScope ["thing"] ["thing"] (defScope st_is_expression) := ⟨rfl, rfl, rfl, by decide +kernel, rfl, by decide +kernel, by decide +kernel⟩
theorem bi_is_expression : BindN "is_expression" "is_expression" st_is_expression ["thing"] := fun _ _ _ _ _ _ us hl => match us, hl with | [_], _ => rfl
abbrev st_is_place : Stmt := top 15
theorem sc_is_place : FnScope ["thing"] ["thing"] (defScope st_is_place) := ⟨rfl, rfl, rfl, by decide +kernel, rfl, by decide +kernel, by decide +kernel⟩
theorem bi_is_place : BindN "is_place" "is_place" st_is_place ["thing"] := fun _ _ _ _ _ _ us hl => match us, hl with | [_], _ => rfl
abbrev st_is_many : Stmt := top 16
theorem sc_is_many : FnScope ["thing", "places", "rest", "items"] ["thing"] (defScope st_is_many) := ⟨rfl, rfl, rfl, by decide +kernel, rfl, by decide +kernel, by decide +kernel⟩
theorem bi_is_many : BindN "is_many" "is_many" st_is_many ["thing"] := fun _ _ _ _ _ _ us hl => match us, hl with | [_], _ => rfl
abbrev st_is_simple_row : Stmt := top 17
theorem sc_is_simple_row : FnScope ["thing"] ["thing"] (defScope st_is_simple_row) := ⟨rfl, rfl, rfl, by decide +kernel, rfl, by decide +kernel, by decide +kernel⟩
theorem bi_is_simple_row : BindN "is_simple_row" "is_simple_row" st_is_simple_row ["thing"] := fun _ _ _ _ _ _ us hl => match us, hl with | [_], _ => rfl
abbrev st_is_any : Stmt := top 18
theorem sc_is_any : FnScope ["thing"] ["thing"] (defScope st_is_any) := ⟨rfl, rfl, rfl, by decide +kernel, rfl, by decide +kernel, by decide +kernel⟩
theorem bi_is_any : BindN "is_any" "is_any" st_is_any ["thing"] := fun _ _ _ _ _ _ us hl => match us, hl with | [_], _ => rfl
abbrev st_is_operand : Stmt := top 14
theorem sc_is_operand : FnScope ["thing"] ["thing"] (defScope st_is_operand) := ⟨rfl, rfl, rfl, by decide +kernel, rfl, by decide +kernel, by decide +kernel⟩
theorem bi_is_operand : BindN "is_operand" "is_operand" st_is_operand ["thing"] := fun _ _ _ _ _ _ us hl => match us, hl with | [_], _ => rfl
abbrev st_blocks_of : Stmt := top 19
theorem sc_blocks_of : FnScope ["thing"] ["thing"] (defScope st_blocks_of) := ⟨rfl, rfl, rfl, by decide +kernel, rfl, by decide +kernel, by decide +kernel⟩
theorem bi_blocks_of : BindN "blocks_of" "blocks_of" st_blocks_of ["thing"] := fun _ _ _ _ _ _ us hl => match us, hl with | [_], _ => rfl
abbrev st_fault_in : Stmt := top 20
theorem sc_fault_in : FnScope ["row", "blocks", "at", "block", "path"] ["row"] (defScope st_fault_in) := ⟨rfl, rfl, rfl, by decide +kernel, rfl, by decide +kernel, by decide +kernel⟩
theorem bi_fault_in : BindN "fault_in" "fault_in" st_fault_in ["row"] := fun _ _ _ _ _ _ us hl => match us, hl with | [_], _ => rfl
abbrev st_first_fault : Stmt := top 21
theorem sc_first_fault : FnScope ["rows", "at", "row", "path"] ["rows"] (defScope st_first_fault) := ⟨rfl, rfl, rfl, by decide +kernel, rfl, by decide +kernel, by decide +kernel⟩
theorem bi_first_fault : BindN "first_fault" "first_fault" st_first_fault ["rows"] := fun _ _ _ _ _ _ us hl => match us, hl with | [_], _ => rfl
abbrev st_helper_number : Stmt := top 25
theorem sc_helper_number : FnScope ["helper"] ["helper"] (defScope st_helper_number) := ⟨rfl, rfl, rfl, by decide +kernel, rfl, by decide +kernel, by decide +kernel⟩
theorem bi_helper_number : BindN "helper_number" "helper_number" st_helper_number ["helper"] := fun _ _ _ _ _ _ us hl => match us, hl with | [_], _ => rfl
abbrev st_Program_init : Stmt := inr 39 0
theorem sc_Program_init : FnScope ["self", "rows", "path", "missing"] ["self", "rows"] (defScope st_Program_init) := ⟨rfl, rfl, rfl, by decide +kernel, rfl, by decide +kernel, by decide +kernel⟩
theorem bi_Program_init : BindN "__init__" "Program.__init__" st_Program_init ["self", "rows"] := fun _ _ _ _ _ _ us hl => match us, hl with | [_, _], _ => rfl
abbrev st_l_take : Stmt := top 42
theorem sc_l_take : FnScope ["_law_bag_here", "_law_many", "_law_cell", "_law_mixed", "_law_drawn", "_law_early", "_law_second"] ["_law_bag_here", "_law_many"] (defScope st_l_take) := ⟨rfl, rfl, rfl, by decide +kernel, rfl, by decide +kernel, by decide +kernel⟩
theorem bi_l_take : BindN "_law_take" "_law_take" st_l_take ["_law_bag_here", "_law_many"] := fun _ _ _ _ _ _ us hl => match us, hl with | [_, _], _ => rfl
abbrev st_l_one : Stmt := top 43
theorem sc_l_one : FnScope ["_law_bag_here", "_law_some"] ["_law_bag_here", "_law_some"] (defScope st_l_one) := ⟨rfl, rfl, rfl, by decide +kernel, rfl, by decide +kernel, by decide +kernel⟩
theorem bi_l_one : BindN "_law_one" "_law_one" st_l_one ["_law_bag_here", "_law_some"] := fun _ _ _ _ _ _ us hl => match us, hl with | [_, _], _ => rfl
abbrev st_l_kept : Stmt := top 46
theorem sc_l_kept : FnScope ["_law_bag_here", "_law_word"] ["_law_bag_here"] (defScope st_l_kept) := ⟨rfl, rfl, rfl, by decide +kernel, rfl, by decide +kernel, by decide +kernel⟩
theorem bi_l_kept : BindN "_law_kept" "_law_kept" st_l_kept ["_law_bag_here"] := fun _ _ _ _ _ _ us hl => match us, hl with | [_], _ => rfl
abbrev st_l_near : Stmt := top 47
theorem sc_l_near : FnScope ["_law_bag_here", "_law_number"] ["_law_bag_here"] (defScope st_l_near) := ⟨rfl, rfl, rfl, by decide +kernel, rfl, by decide +kernel, by decide +kernel⟩
theorem bi_l_near : BindN "_law_near" "_law_near" st_l_near ["_law_bag_here"] := fun _ _ _ _ _ _ us hl => match us, hl with | [_], _ => rfl
abbrev st_l_lower : Stmt := top 45
theorem sc_l_lower : FnScope ["_law_bag_here", "_law_size", "_law_k"] ["_law_bag_here"] (defScope st_l_lower) := ⟨rfl, rfl, rfl, by decide +kernel, rfl, by decide +kernel, by decide +kernel⟩
theorem bi_l_lower : BindN "_law_lower" "_law_lower" st_l_lower ["_law_bag_here"] := fun _ _ _ _ _ _ us hl => match us, hl with | [_], _ => rfl
abbrev st_l_string : Stmt := top 44
theorem sc_l_string : FnScope ["_law_bag_here", "_law_menu", "_law_size", "_law_k"] ["_law_bag_here"] (defScope st_l_string) := ⟨rfl, rfl, rfl, by decide +kernel, rfl, by decide +kernel, by decide +kernel⟩
theorem bi_l_string : BindN "_law_string" "_law_string" st_l_string ["_law_bag_here"] := fun _ _ _ _ _ _ us hl => match us, hl with | [_], _ => rfl
abbrev st_l_thing : Stmt := top 48
theorem sc_l_thing : FnScope ["_law_bag_here", "_law_way", "_law_some"] ["_law_bag_here"] (defScope st_l_thing) := ⟨rfl, rfl, rfl, by decide +kernel, rfl, by decide +kernel, by decide +kernel⟩
theorem bi_l_thing : BindN "_law_thing" "_law_thing" st_l_thing ["_law_bag_here"] := fun _ _ _ _ _ _ us hl => match us, hl with | [_], _ => rfl
abbrev st_l_all_in : Stmt := top 49
theorem sc_l_all_in : FnScope ["_law_thing_here", "_law_letters", "_law_letter"] ["_law_thing_here", "_law_letters"] (defScope st_l_all_in) := ⟨rfl, rfl, rfl, by decide +kernel, rfl, by decide +kernel, by decide +kernel⟩
theorem bi_l_all_in : BindN "_law_all_in" "_law_all_in" st_l_all_in ["_law_thing_here", "_law_letters"] := fun _ _ _ _ _ _ us hl => match us, hl with | [_, _], _ => rfl
abbrev st_l_due : Stmt := top 50
theorem sc_l_due : FnScope ["_law_thing_here", "_law_lower_here", "_law_digits", "_law_own", "_law_helper", "_law_k"] ["_law_thing_here"] (defScope st_l_due) := ⟨rfl, rfl, rfl, by decide +kernel, rfl, by decide +kernel, by decide +kernel⟩
theorem bi_l_due : BindN "_law_due" "_law_due" st_l_due ["_law_thing_here"] := fun _ _ _ _ _ _ us hl => match us, hl with | [_], _ => rfl
abbrev st_law : Stmt := top 51
theorem sc_law : FnScope ["_law_script", "_law_bag_here", "_law_turn", "_law_thing_here", "_law_due_here", "_law_shown", "_law_found", "_law_k"] ["_law_script"] (defScope st_law) := ⟨rfl, rfl, rfl, by decide +kernel, rfl, by decide +kernel, by decide +kernel⟩
theorem bi_law : BindN "law" "law" st_law ["_law_script"] := fun _ _ _ _ _ _ us hl => match us, hl with | [_], _ => rfl
def dd_l_bag : Dfn := ⟨fun K => He.ga K "_law_bag", "_law_bag", "_law_bag", defArgs st_l_bag, defBody st_l_bag, defScope st_l_bag, [], []⟩
def dd_BadRow_init : Dfn := ⟨fun K => He.ma K (He.ga K "BadRow") "__init__", "__init__", "BadRow.__init__", defArgs st_BadRow_init, defBody st_BadRow_init, defScope st_BadRow_init, [], []⟩
def dd_Unset_init : Dfn := ⟨fun K => He.ma K (He.ga K "Unset") "__init__", "__init__", "Unset.__init__", defArgs st_Unset_init, defBody st_Unset_init, defScope st_Unset_init, [], []⟩
def dd_as_tuples : Dfn := ⟨fun K => He.ga K "as_tuples", "as_tuples", "as_tuples", defArgs st_as_tuples, defBody st_as_tuples, defScope st_as_tuples, [], []⟩
def dd_values_in : Dfn := ⟨fun K => He.ga K "values_in", "values_in", "values_in", defArgs st_values_in, defBody st_values_in, defScope st_values_in, [], []⟩
def dd_places_in : Dfn := ⟨fun K => He.ga K "places_in", "places_in", "places_in", defArgs st_places_in, defBody st_places_in, defScope st_places_in, [], []⟩
def dd_parts_of : Dfn := ⟨fun K => He.ga K "parts_of", "parts_of", "parts_of", defArgs st_parts_of, defBody st_parts_of, defScope st_parts_of, [], []⟩
def dd_all_names : Dfn := ⟨fun K => He.ga K "all_names", "all_names", "all_names", defArgs st_all_names, defBody st_all_names, defScope st_all_names, [], []⟩
def dd_read_in : Dfn := ⟨fun K => He.ga K "read_in", "read_in", "read_in", defArgs st_read_in, defBody st_read_in, defScope st_read_in, [], []⟩
def dd_is_made_of : Dfn := ⟨fun K => He.ga K "is_made_of", "is_made_of", "is_made_of", defArgs st_is_made_of, defBody st_is_made_of, defScope st_is_made_of, [], []⟩
def dd_is_helper : Dfn := ⟨fun K => He.ga K "is_helper", "is_helper", "is_helper", defArgs st_is_helper, defBody st_is_helper, defScope st_is_helper, [], []⟩
def dd_unset_in : Dfn := ⟨fun K => He.ga K "unset_in", "unset_in", "unset_in", defArgs st_unset_in, defBody st_unset_in, defScope st_unset_in, [], []⟩
def dd_has_form : Dfn := ⟨fun K => He.ga K "has_form", "has_form", "has_form", defArgs st_has_form, defBody st_has_form, defScope st_has_form, [], []⟩
def dd_is_list_of : Dfn := ⟨fun K => He.ga K "is_list_of", "is_list_of", "is_list_of", defArgs st_is_list_of, defBody st_is_list_of, defScope st_is_list_of, [], []⟩
def dd_is_own_name : Dfn := ⟨fun K => He.ga K "is_own_name", "is_own_name", "is_own_name", defArgs st_is_own_name, defBody st_is_own_name, defScope st_is_own_name, [], []⟩
def dd_is_name : Dfn := ⟨fun K => He.ga K "is_name", "is_name", "is_name", defArgs st_is_name, defBody st_is_name, defScope st_is_name, [], []⟩
def dd_is_word : Dfn := ⟨fun K => He.ga K "is_word", "is_word", "is_word", defArgs st_is_word, defBody st_is_word, defScope st_is_word, [], []⟩
def dd_is_sign : Dfn := ⟨fun K => He.ga K "is_sign", "is_sign", "is_sign", defArgs st_is_sign, defBody st_is_sign, defScope st_is_sign, [], []⟩
def dd_is_expression : Dfn := ⟨fun K => He.ga K "is_expression", "is_expression", "is_expression", defArgs st_is_expression, defBody st_is_expression, defScope st_is_expression, [], []⟩
def dd_is_place : Dfn := ⟨fun K => He.ga K "is_place", "is_place", "is_place", defArgs st_is_place, defBody st_is_place, defScope st_is_place, [], []⟩
def dd_is_many : Dfn := ⟨fun K => He.ga K "is_many", "is_many", "is_many", defArgs st_is_many, defBody st_is_many, defScope st_is_many, [], []⟩
def dd_is_simple_row : Dfn := ⟨fun K => He.ga K "is_simple_row", "is_simple_row", "is_simple_row", defArgs st_is_simple_row, defBody st_is_simple_row, defScope st_is_simple_row, [], []⟩
def dd_is_any : Dfn := ⟨fun K => He.ga K "is_any", "is_any", "is_any", defArgs st_is_any, defBody st_is_any, defScope st_is_any, [], []⟩
def dd_is_operand : Dfn := ⟨fun K => He.ga K "is_operand", "is_operand", "is_operand", defArgs st_is_operand, defBody st_is_operand, defScope st_is_operand, [], []⟩
def dd_blocks_of : Dfn := ⟨fun K => He.ga K "blocks_of", "blocks_of", "blocks_of", defArgs st_blocks_of, defBody st_blocks_of, defScope st_blocks_of, [], []⟩
def dd_fault_in : Dfn := ⟨fun K => He.ga K "fault_in", "fault_in", "fault_in", defArgs st_fault_in, defBody st_fault_in, defScope st_fault_in, [], []⟩
def dd_first_fault : Dfn := ⟨fun K => He.ga K "first_fault", "first_fault", "first_fault", defArgs st_first_fault, defBody st_first_fault, defScope st_first_fault, [], []⟩
def dd_helper_number : Dfn := ⟨fun K => He.ga K "helper_number", "helper_number", "helper_number", defArgs st_helper_number, defBody st_helper_number, defScope st_helper_number, [], []⟩
def dd_Program_init : Dfn := ⟨fun K => He.ma K (He.ga K "Program") "__init__", "__init__", "Program.__init__", defArgs st_Program_init, defBody st_Program_init, defScope st_Program_init, [], []⟩
def dd_l_take : Dfn := ⟨fun K => He.ga K "_law_take", "_law_take", "_law_take", defArgs st_l_take, defBody st_l_take, defScope st_l_take, [], []⟩
def dd_l_one : Dfn := ⟨fun K => He.ga K "_law_one", "_law_one", "_law_one", defArgs st_l_one, defBody st_l_one, defScope st_l_one, [], []⟩
def dd_l_kept : Dfn := ⟨fun K => He.ga K "_law_kept", "_law_kept", "_law_kept", defArgs st_l_kept, defBody st_l_kept, defScope st_l_kept, [], []⟩
def dd_l_near : Dfn := ⟨fun K => He.ga K "_law_near", "_law_near", "_law_near", defArgs st_l_near, defBody st_l_near, defScope st_l_near, [], []⟩
def dd_l_lower : Dfn := ⟨fun K => He.ga K "_law_lower", "_law_lower", "_law_lower", defArgs st_l_lower, defBody st_l_lower, defScope st_l_lower, [], []⟩
def dd_l_string : Dfn := ⟨fun K => He.ga K "_law_string", "_law_string", "_law_string", defArgs st_l_string, defBody st_l_string, defScope st_l_string, [], []⟩
def dd_l_thing : Dfn := ⟨fun K => He.ga K "_law_thing", "_law_thing", "_law_thing", defArgs st_l_thing, defBody st_l_thing, defScope st_l_thing, [], []⟩
def dd_l_all_in : Dfn := ⟨fun K => He.ga K "_law_all_in", "_law_all_in", "_law_all_in", defArgs st_l_all_in, defBody st_l_all_in, defScope st_l_all_in, [], []⟩
def dd_l_due : Dfn := ⟨fun K => He.ga K "_law_due", "_law_due", "_law_due", defArgs st_l_due, defBody st_l_due, defScope st_l_due, [], []⟩
def dd_law : Dfn := ⟨fun K => He.ga K "law", "law", "law", defArgs st_law, defBody st_law, defScope st_law, [], []⟩
def fn : List Dfn := [dd_l_bag, dd_BadRow_init, dd_Unset_init, dd_as_tuples, dd_values_in, dd_places_in, dd_parts_of, dd_all_names, dd_read_in, dd_is_made_of, dd_is_helper, dd_unset_in, dd_has_form, dd_is_list_of, dd_is_own_name, dd_is_name, dd_is_word, dd_is_sign, dd_is_expression, dd_is_place, dd_is_many, dd_is_simple_row, dd_is_any, dd_is_operand, dd_blocks_of, dd_fault_in, dd_first_fault, dd_helper_number, dd_Program_init, dd_l_take, dd_l_one, dd_l_kept, dd_l_near, dd_l_lower, dd_l_string, dd_l_thing, dd_l_all_in, dd_l_due, dd_law]
def ts : List He.Tab := []
def fa0 : List Ft := [.free "abs", .free "bool", .free "dict", .free "enumerate", .free "int", .free "isinstance", .free "len", .free "list", .free "range", .free "repr", .free "sorted", .free "str", .free "tuple", .con "DIGITS" c_DIGITS, .con "LETTERS" c_LETTERS, .con "RESERVED" c_RESERVED, .glo "_law_bag", .glo "as_tuples", .glo "values_in", .glo "places_in"]
def fa1 : List Ft := [.glo "parts_of", .glo "all_names", .glo "read_in", .glo "is_made_of", .glo "is_helper", .glo "unset_in", .glo "has_form", .glo "is_list_of", .glo "is_own_name", .glo "is_name", .glo "is_word", .glo "is_sign", .glo "is_expression", .glo "is_place", .glo "is_many", .glo "is_simple_row", .glo "is_any", .glo "is_operand", .glo "blocks_of", .glo "fault_in"]
def fa2 : List Ft := [.glo "first_fault", .glo "helper_number", .glo "_law_take", .glo "_law_one", .glo "_law_kept", .glo "_law_near", .glo "_law_lower", .glo "_law_string", .glo "_law_thing", .glo "_law_all_in", .glo "_law_due", .glo "law", .glo "BadRow", .glo "FoundError", .glo "Program", .glo "Unset", faB (.cls "Program"), faB (.mkr "Program"), faB (.noat "Program" "held"), feB "FoundError"]
def fa3 : List Ft := [xcB "BadRow" ["path"], xcB "Unset" ["name"], xtB xtab, blB bl_os bl_xs]
def fa : List Ft := fa0 ++ fa1 ++ fa2 ++ fa3
def loose0 : List PySem.Str := ["_wall", "LETTERS", "DIGITS", "RESERVED", "is_made_of", "is_own_name", "is_helper", "is_name", "is_word", "is_sign", "is_list_of", "has_form", "is_expression", "is_operand", "is_place", "is_many", "is_simple_row", "is_any", "blocks_of", "fault_in"]
def loose1 : List PySem.Str := ["first_fault", "as_tuples", "parts_of", "all_names", "helper_number", "FoundError", "BadRow", "Unset", "NoRow", "blocks_in", "all_rows", "places_in", "values_in", "read_in", "unset_in", "is_index", "Program", "_law_bag", "_law_take", "_law_one"]
def loose2 : List PySem.Str := ["_law_string", "_law_lower", "_law_kept", "_law_near", "_law_thing", "_law_all_in", "_law_due"]
def loose : List PySem.Str := loose0 ++ loose1 ++ loose2
abbrev R : PySem.W.OpenRow := PySem.W.OpenLaw.row PySem.Challenge.rw_foundtwice_k12_names_words_and_signs
abbrev hk : PySem.W.Hook := hookA 900 fa fn ts
def ob (s : PySem.W.SharedT) : AlN := obsNA 900 fa fn ts (HandSHeadRun.getT s)
theorem ob_eq (s : PySem.W.SharedT) : ob s = hk.obs s.abs := obsNA_eq (HandSHeadRun.getT_eq s)
theorem map3 {A B C D : Type} {x : Option A} {f : A → B} {g : A → C} {h : A → D} {a : B} {b : C} {c : D} (h1 : x.map f = some a) (h2 : x.map g = some b) (h3 : x.map h = some c) : x.map (fun s => (f s, g s, h s)) = some (a, b, c) := by
  cases x with
  | none => cases h1
  | some s =>
    injection h1 with h1
    injection h2 with h2
    injection h3 with h3
    show some (f s, g s, h s) = _
    rw [h1, h2, h3]
open PySem.W PySem.Calls PyProof.Rows in
theorem run_w1 (w : World) (os : OsState) : (HandSHeadRun.endF (HandSHeadRun.stepQ (HandSHeadRun.denQ HandSHeadRun.tabQ) R.prog w) 20000 R.prog w os).map (fun s => HandSHeadRun.looksF R.prog (boot_heap (w).params) s.abs) = some true := by
  kernel_rfl
open PySem.W PySem.Calls PyProof.Rows in
theorem run_w2 (w : World) (os : OsState) : (HandSHeadRun.endF (HandSHeadRun.stepQ (HandSHeadRun.denQ HandSHeadRun.tabQ) R.prog w) 20000 R.prog w os).map (fun s => HandSHeadRun.seenQ (PySem.W.view R.prog [51]) loose (importedModules R.prog.main.body) (fun s => xlAt (PySem.W.view R.prog [51]) [] s && recOk R.toRowW.records s) s.abs) = some (openGood (PySem.W.view R.prog [51]) loose) := by
  kernel_rfl
open PySem.W PySem.Calls PyProof.Rows in
theorem run_w3 (w : World) (os : OsState) : (HandSHeadRun.endF (HandSHeadRun.stepQ (HandSHeadRun.denQ HandSHeadRun.tabQ) R.prog w) 20000 R.prog w os).map (fun s => ob s) = some (hk.val w) := by
  kernel_rfl
theorem run_w (w : World) : HandSHeadRun.RunEq R (PySem.W.view R.prog [51]) hk ob 20000 loose w := fun os => map3 (run_w1 w os) (run_w2 w os) (run_w3 w os)
theorem run (w : World) : HandSHeadRun.RunEq R (PySem.W.view R.prog [51]) hk ob 20000 loose w := run_w w
end Row
namespace DL
open PySem L2
/-- plain things: a text is short -/
def PlK : Dv → Prop
  | .non => True
  | .bl _ => True
  | .int _ => True
  | .str x => x.length ≤ 16777216
  | .tup _ => True
  | .lst _ => True
  | .dic _ => True
  | _ => False
def onS (p : Str → Bool) : Dv → Bool
  | .str x => p x
  | _ => false
def Dt : Nat → Dv → Prop
  | 0, .tup _ => False
  | 0, .lst _ => False
  | n + 1, .tup l => l.length ≤ 10000000 ∧ ∀ x ∈ l, Dt n x
  | n + 1, .lst l => l.length ≤ 10000000 ∧ ∀ x ∈ l, Dt n x
  | _, d => PlK d
def sq : Dv → Option (List Dv)
  | .tup l => some l
  | .lst l => some l
  | _ => none
theorem Dt.up {n : Nat} : ∀ {d : Dv}, Dt n d → Dt (n + 1) d := by
  induction n with
  | zero =>
    intro d h
    cases d with
    | tup l => exact h.elim
    | lst l => exact h.elim
    | _ => exact h
  | succ n ih =>
    intro d h
    cases d with
    | tup l => exact ⟨h.1, fun x hx => ih (h.2 x hx)⟩
    | lst l => exact ⟨h.1, fun x hx => ih (h.2 x hx)⟩
    | _ => exact h
theorem Dt.seq {n : Nat} {d : Dv} {l : List Dv} (h : Dt n d) (e : sq d = some l) : ∃ m, n = m + 1 ∧ l.length ≤ 10000000 ∧ ∀ x ∈ l, Dt m x := by
  cases d with
  | tup l' =>
    cases e
    cases n with
    | zero => exact h.elim
    | succ n => exact ⟨n, rfl, h.1, h.2⟩
  | lst l' =>
    cases e
    cases n with
    | zero => exact h.elim
    | succ n => exact ⟨n, rfl, h.1, h.2⟩
  | _ => cases e
/-- d is read as p in every store -/
def Rs (d : Dv) (p : PyData) : Prop := ∀ m S, toQ (deref m S d) = some p
/-- a leaf -/
def Leaf (d : Dv) : Prop := PlK d ∧ sq d = none ∧ ∃ p, Rs d p ∧ p.showable = true ∧ p.depth ≤ 1 ∧ p.shown.length ≤ 100
mutual
inductive Tr : Nat → Nat → Dv → Prop
  | leaf {n w : Nat} {d : Dv} : Leaf d → 100 ≤ w → Tr n w d
  | seq {n w v : Nat} {d : Dv} {l : List Dv} : (d = .tup l ∨ d = .lst l) → TrL n w l → w + 3 ≤ v → Tr (n + 1) v d
inductive TrL : Nat → Nat → List Dv → Prop
  | nil {n w : Nat} : TrL n w []
  | cons {n w v u : Nat} {d : Dv} {l : List Dv} : Tr n w d → TrL n v l → w + v + 2 ≤ u → TrL n u (d :: l)
end
theorem TrL.len : ∀ {n w : Nat} {l : List Dv}, TrL n w l → 2 * l.length ≤ w
  | _, _, _, .nil => Nat.zero_le _
  | _, _, _, .cons _ t h => by
    have := t.len
    simp only [List.length_cons]
    omega
mutual
theorem Tr.mono : ∀ {n w : Nat} {d : Dv} {n' w' : Nat}, Tr n w d → n ≤ n' → w ≤ w' → Tr n' w' d
  | _, _, _, _, _, .leaf h h1, _, h2 => .leaf h (Nat.le_trans h1 h2)
  | n + 1, _, _, n' + 1, _, .seq hd t h, h1, h2 => .seq hd (t.mono (Nat.le_of_succ_le_succ h1) (Nat.le_refl _)) (Nat.le_trans h h2)
theorem TrL.mono : ∀ {n w : Nat} {l : List Dv} {n' w' : Nat}, TrL n w l → n ≤ n' → w ≤ w' → TrL n' w' l
  | _, _, _, _, _, .nil, _, _ => .nil
  | _, _, _, _, _, .cons h t hw, h1, h2 => .cons (h.mono h1 (Nat.le_refl _)) (t.mono h1 (Nat.le_refl _)) (Nat.le_trans hw h2)
end
theorem TrL.mem : ∀ {n w : Nat} {l : List Dv} {d : Dv}, TrL n w l → d ∈ l → Tr n w d
  | _, _, _, _, .cons h t hw, hm => by
    rcases List.mem_cons.mp hm with rfl | hm
    · exact h.mono (Nat.le_refl _) (by omega)
    · exact (t.mem hm).mono (Nat.le_refl _) (by omega)
theorem TrL.app : ∀ {n w v : Nat} {l m : List Dv}, TrL n w l → TrL n v m → TrL n (w + v) (l ++ m)
  | _, _, _, _, _, .nil, h => h.mono (Nat.le_refl _) (by omega)
  | _, _, _, _, _, .cons a t hw, h => .cons a (t.app h) (by omega)
theorem atI_r {γ : Type} {l : List γ} {r : Int} (h0 : 0 ≤ r) (h1 : r < l.length) : ∃ d, atI l r = some d ∧ d ∈ l := by
  have hr : r.toNat < l.length := by omega
  exact ⟨l[r.toNat], by unfold atI; rw [ixN_ok h0 h1]; simp [hr], List.getElem_mem hr⟩
end DL
namespace DL
open PySem L2
def bagOb (c0 c1 c2 : Int) (cells : List Int) : Ob := .lst [.int c0, .int c1, .int c2, .lst (cells.map Dv.int)]
def BagOk (o : Ob) : Prop := ∃ (c0 c1 c2 : Int) (cells : List Int), o = bagOb c0 c1 c2 cells ∧ 0 ≤ c0 ∧ 0 ≤ c1 ∧ c1 < 2147483647 ∧ 0 ≤ c2 ∧ ∀ c ∈ cells, 0 ≤ c
def BagAt (S : Sto) (b : Nat) : Prop := ∃ o, S[b]? = some o ∧ BagOk o
theorem take_ok (m : Nat) {S : Sto} {b : Nat} {n : Int} (hB : BagAt S b) (hn : 0 < n) (hn2 : n < 1073741824) : ∃ r o, calls (m + 1) .l_take S [.hdl b, .int n] = .ok (.int r) (S.set b o) ∧ 0 ≤ r ∧ r < n ∧ BagOk o := by
  obtain ⟨o, h, c0, c1, c2, cells, rfl, k0, k1, k2, k3, k4⟩ := hB
  have hset : ∀ x : Ob, (S.set b x)[b]? = some x := fun x => by rw [List.getElem?_set, if_pos rfl, if_pos (List.getElem?_eq_some_iff.mp h).1]
  have nl : (0 : Int) ≤ c2 + 1 := by omega
  have hm : ∀ x : Int, 0 ≤ x % n ∧ x % n < n := fun x => ⟨Int.emod_nonneg _ (by omega), Int.emod_lt_of_pos _ hn⟩
  have hp : ∀ x : Int, 0 ≤ x % 2147483647 ∧ x % 2147483647 < 2147483647 := fun x => ⟨Int.emod_nonneg _ (by decide), Int.emod_lt_of_pos _ (by decide)⟩
  have hd : ∀ x : Int, 0 ≤ x → 0 ≤ x / n := fun x hx => Int.ediv_nonneg hx (by omega)
  unfold bagOb at h
  by_cases h0 : c0 = 0
  · subst h0
    have mul1 : -(2 ^ 64) < c1 ∧ c1 < 2 ^ 64 := by omega
    have cell : ∃ c : Int, 0 ≤ c ∧ ((c2 < (cells.length : Int) ∧ atI (cells.map Dv.int) c2 = some (.int c)) ∨ (¬ c2 < (cells.length : Int) ∧ c = 0)) := by
      by_cases hl : c2 < (cells.length : Int)
      · have hl2 : c2.toNat < cells.length := by omega
        exact ⟨cells[c2.toNat], k4 _ (List.getElem_mem hl2), .inl ⟨hl, by unfold atI; rw [List.length_map, ixN_ok k3 hl]; simp [hl2]⟩⟩
      · exact ⟨0, Int.le_refl _, .inr ⟨hl, rfl⟩⟩
    obtain ⟨c, hc, hcell⟩ := cell
    by_cases hbig : 1000000000000000000 ≤ c
    · have c0p : (0 : Int) < c := by omega
      refine ⟨c % n, bagOb (c / n) ((c1 * 48271 + c % 2147483647 + 7919 * (c2 + 1)) % 2147483647) (c2 + 1) cells, ?_, (hm c).1, (hm c).2, _, _, _, _, rfl, hd c hc, (hp _).1, (hp _).2, nl, k4⟩
      unfold bagOb
      rcases hcell with ⟨hl, e⟩ | ⟨hl, e⟩
      · simp [ev_l_take, fb_l_take, op_mul_i, op_mod_i, op_fdiv_i, hn, hn2, ixN_ok, h, hl, hset, hbig, k3, c0p, mul1, e]
      · subst e
        omega
    · have key : ∃ c1' : Int, 0 ≤ c1' ∧ c1' < 2147483647 ∧ calls (m + 1) .l_take S [.hdl b, .int n] = .ok (.int (((((c1' + 1) * 39373 % 1000000007) * ((c1' + 1) * 39373 % 1000000007) % 998244353 * 30011) % 998244353) / 7 % n)) (S.set b (bagOb 0 c1' (c2 + 1) cells)) := by
        refine ⟨(c1 * 48271 + c % 2147483647 + 7919 * (c2 + 1)) % 2147483647, (hp _).1, (hp _).2, ?_⟩
        obtain ⟨q1, q2⟩ := hp (c1 * 48271 + c % 2147483647 + 7919 * (c2 + 1))
        have nbig : ¬ (1000000000000000000 ≤ c) := hbig
        rcases hcell with ⟨hl, e⟩ | ⟨hl, e⟩
        · unfold bagOb
          generalize hw : (c1 * 48271 + c % 2147483647 + 7919 * (c2 + 1)) % 2147483647 = w1 at *
          have m1 : -(2 ^ 64) < w1 + 1 ∧ w1 + 1 < 2 ^ 64 := by omega
          have m2 : -(2 ^ 64) < (w1 + 1) * 39373 % 1000000007 ∧ (w1 + 1) * 39373 % 1000000007 < 2 ^ 64 := by omega
          have m3 := fun S' : Sto => op_mul_i S' _ ((w1 + 1) * 39373 % 1000000007) (.inl m2)
          simp [ev_l_take, fb_l_take, op_mul_i, op_mod_i, op_fdiv_i, hn, hn2, ixN_ok, h, hl, hset, nbig, k3, mul1, e, hw, m1, m3]
        · subst e
          unfold bagOb
          generalize hw : (c1 * 48271 + (0 : Int) % 2147483647 + 7919 * (c2 + 1)) % 2147483647 = w1 at *
          have m1 : -(2 ^ 64) < w1 + 1 ∧ w1 + 1 < 2 ^ 64 := by omega
          have m2 : -(2 ^ 64) < (w1 + 1) * 39373 % 1000000007 ∧ (w1 + 1) * 39373 % 1000000007 < 2 ^ 64 := by omega
          have m3 := fun S' : Sto => op_mul_i S' _ ((w1 + 1) * 39373 % 1000000007) (.inl m2)
          have hw2 : (c1 * 48271 + 7919 * (c2 + 1)) % 2147483647 = w1 := by rw [← hw]; simp
          simp [ev_l_take, fb_l_take, op_mul_i, op_mod_i, op_fdiv_i, hn, hn2, ixN_ok, h, hl, hset, k3, mul1, hw2, m1, m3]
      obtain ⟨c1', w1, w2, e⟩ := key
      exact ⟨_, _, e, (hm _).1, (hm _).2, _, _, _, _, rfl, Int.le_refl _, w1, w2, nl, k4⟩
  · have h1 : 0 < c0 := by omega
    refine ⟨c0 % n, bagOb (c0 / n) c1 c2 cells, ?_, (hm c0).1, (hm c0).2, _, _, _, _, rfl, hd c0 k0, k1, k2, k3, k4⟩
    unfold bagOb
    simp [ev_l_take, fb_l_take, op_mul_i, op_mod_i, op_fdiv_i, hn, hn2, ixN_ok, h, h0, h1]
theorem cutG_map {α β : Type} (f : α → β) (l : List α) (lo hi : Option Int) : cutG (l.map f) lo hi = (cutG l lo hi).map f := by
  unfold cutG
  rw [List.length_map, List.map_take, List.map_drop]
theorem cutG_len {α : Type} (l : List α) (lo hi : Option Int) : (cutG l lo hi).length ≤ l.length := by
  unfold cutG
  rw [List.length_take, List.length_drop]
  omega
theorem lc_abs (x : Sl) (S : Sto) : ∀ ms : List Int, lcR (gN 1) tTrue (eCB absD (aCons (eVar 1) aNil)) [x, .no] (ms.map Dv.int) S = .ok ((ms.map fun m => if m < 0 then -m else m).map Dv.int) S
  | [] => rfl
  | m :: r => by
    simp [lcR, tTrue, lc_abs x S r]
theorem bag_ok (m : Nat) (S : Sto) (ns : List Int) (h : ns.length ≤ 63) : ∃ o, calls (m + 1) .l_bag S [.rol (ns.map .int)] = .ok (.hdl S.length) (S ++ [o]) ∧ BagOk o := by
  have hl : (List.map Dv.int ((cutG ns none (some 63)).map fun m => if m < 0 then -m else m)).length ≤ sizeLine := by
    rw [List.length_map, List.length_map]
    exact line_le _ (by have := cutG_len ns none (some 63); omega)
  refine ⟨bagOb 0 1234567891 0 ((cutG ns none (some 63)).map fun m => if m < 0 then -m else m), ?_, 0, 1234567891, 0, _, rfl, by decide, by decide, by decide, by decide, fun c hc => ?_⟩
  · unfold bagOb
    rw [List.map_map] at hl
    simp [ev_l_bag, fb_l_bag, cutG_map, lc_abs, kLcEnd_ok _ _ hl]
  · obtain ⟨m, _, rfl⟩ := List.mem_map.mp hc
    split <;> omega
theorem bag_at {o : Ob} (h : BagOk o) : BagAt [o] 0 := ⟨o, rfl, h⟩
theorem BagAt.lt {S : Sto} {b : Nat} (h : BagAt S b) : b < S.length := by obtain ⟨o, h, _⟩ := h; exact (List.getElem?_eq_some_iff.mp h).1
theorem BagAt.set {S : Sto} {b : Nat} {o : Ob} (h : BagAt S b) (ho : BagOk o) : BagAt (S.set b o) b := ⟨o, by rw [List.getElem?_set, if_pos rfl, if_pos h.lt], ho⟩
theorem BagAt.app {S : Sto} {b : Nat} {o : Ob} (h : BagAt S b) : BagAt (S ++ [o]) b := by
  obtain ⟨q, h1, h2⟩ := h
  exact ⟨q, by rw [List.getElem?_append_left (List.getElem?_eq_some_iff.mp h1).1]; exact h1, h2⟩
end DL
namespace DL
open PySem L2
def madeOf (x t : Str) : Bool := decide (0 < x.length ∧ x.length ≤ 8) && allC t x.cps.toList
def reserved : List Str := ["do", "if", "else", "while", "end"]
def letters : Str := "abcdefghijklmnopqrstuvwxyz"
def digits : Str := "0123456789"
def own (x : Str) : Bool := madeOf x letters && !reserved.contains x
def wrd (x : Str) : Bool := madeOf x (letters ++ digits)
theorem made_loop (n : Nat) (x t : Str) (S : Sto) : ∀ (cs : List Nat) (y : Sl), ∃ z, forR (gN 2) (fb_is_made_of_l0 (calls n)) (cs.map fun c => Dv.str ⟨#[c]⟩) [.va (.str x), .va (.str t), y] S =
    if allC t cs then .nx [.va (.str x), .va (.str t), z] S else .rt (.bl false) S
  | [], y => ⟨y, rfl⟩
  | c :: cs, y => by
    obtain ⟨z, ih⟩ := made_loop n x t S cs (.va (.str ⟨#[c]⟩))
    refine ⟨z, ?_⟩
    rw [allC_cons]
    cases h : hasC t c with
    | false => rw [List.map_cons, forR_rt (r := .bl false) (S1 := S) rfl (by simp [fb_is_made_of_l0, h])]; rfl
    | true => rw [List.map_cons, forR_nx (e2 := [.va (.str x), .va (.str t), .va (.str ⟨#[c]⟩)]) (S1 := S) rfl (by simp [fb_is_made_of_l0, h]), ih]; rfl
theorem made_ok (n : Nat) (x t : Str) (S : Sto) (hx : x.length ≤ 16777216) : calls (n + 1) .is_made_of S [.str x, .str t] = .ok (.bl (madeOf x t)) S := by
  unfold madeOf
  by_cases h0 : (0 : Int) < x.length
  · have h0' : 0 < x.length := by omega
    by_cases h8 : (x.length : Int) ≤ 8
    · have hd : decide (0 < x.length ∧ x.length ≤ 8) = true := by simp; omega
      obtain ⟨z, h⟩ := made_loop n x t S x.cps.toList .no
      have hs : strL x = x.cps.toList.map fun c => Dv.str ⟨#[c]⟩ := rfl
      rw [hd]
      cases ha : allC t x.cps.toList with
      | true => rw [ha, if_pos rfl] at h; simp [ev_is_made_of, fb_is_made_of, len_str', hx, h0', h8, hs, h]
      | false => rw [ha, if_neg Bool.false_ne_true] at h; simp [ev_is_made_of, fb_is_made_of, len_str', hx, h0', h8, hs, h]
    · have hd : decide (0 < x.length ∧ x.length ≤ 8) = false := by simp; omega
      rw [hd]
      simp [ev_is_made_of, fb_is_made_of, len_str', hx, h0', h8]
  · have hd : decide (0 < x.length ∧ x.length ≤ 8) = false := by simp; omega
    rw [hd]
    have h0' : ¬ 0 < x.length := by omega
    simp [ev_is_made_of, fb_is_made_of, len_str', hx, h0']
theorem made_no (n : Nat) (d : Dv) (t : Str) (S : Sto) (h : isiD S [d, .ty "str"] = some (.bl false, S)) : calls (n + 1) .is_made_of S [d, .str t] = .ok (.bl false) S := by
  simp [ev_is_made_of, fb_is_made_of, h]
end DL
namespace DL
open PySem L2
def resvD : List Dv := [.str "do", .str "if", .str "else", .str "while", .str "end"]
def resv (x : Str) : Bool := inF (.str x) resvD
def ownN (x : Str) : Bool := madeOf x letters && !resv x
def sgnN (x : Str) : Bool := ownN x && !decide (x = "split")
def wrdN (x : Str) : Bool := madeOf x (letters ++ digits)
def hlpN (x : Str) : Bool := decide (2 ≤ x.length ∧ x.length ≤ 3) && decide (x.cps.toList[0]? = some 104) && allC digits (x.cps.toList.drop 1) && !decide (x.cps.toList[1]? = some 48)
theorem made_d (n : Nat) (d : Dv) (t : Str) (S : Sto) (h : PlK d) : calls (n + 1) .is_made_of S [d, .str t] = .ok (.bl (onS (madeOf · t) d)) S := by
  cases d with
  | str x => exact made_ok n x t S h
  | hdl k => exact h.elim
  | glo k => exact h.elim
  | ty k => exact h.elim
  | obj _ _ => exact h.elim
  | rol _ => exact h.elim
  | ext _ _ _ _ => exact h.elim
  | _ => exact made_no n _ t S (by simp)
theorem ni_resv (x : Str) (S : Sto) : inD true S (.str x) c_RESERVED = some (.bl (!resv x), S) := rfl
theorem own_d (n : Nat) (d : Dv) (S : Sto) (h : PlK d) : calls (n + 2) .is_own_name S [d] = .ok (.bl (onS ownN d)) S := by
  have e := made_d n d letters S h
  cases d with
  | str x =>
    have e' : calls (n + 1) .is_made_of S [.str x, c_LETTERS] = .ok (.bl (madeOf x letters)) S := e
    cases hm : madeOf x letters <;> simp [ev_is_own_name, fb_is_own_name, e', hm, ni_resv, onS, ownN]
  | hdl k => exact h.elim
  | glo k => exact h.elim
  | ty k => exact h.elim
  | obj _ _ => exact h.elim
  | rol _ => exact h.elim
  | ext _ _ _ _ => exact h.elim
  | _ =>
    have e' : calls (n + 1) .is_made_of S [_, c_LETTERS] = .ok (.bl false) S := e
    simp [ev_is_own_name, fb_is_own_name, e', onS]
theorem sign_d (n : Nat) (d : Dv) (S : Sto) (h : PlK d) : calls (n + 3) .is_sign S [d] = .ok (.bl (onS sgnN d)) S := by
  have e := own_d n d S h
  cases d with
  | str x =>
    have e' : calls (n + 2) .is_own_name S [.str x] = .ok (.bl (ownN x)) S := e
    cases hm : ownN x <;> simp [ev_is_sign, fb_is_sign, e', hm, onS, sgnN]
  | hdl k => exact h.elim
  | glo k => exact h.elim
  | ty k => exact h.elim
  | obj _ _ => exact h.elim
  | rol _ => exact h.elim
  | ext _ _ _ _ => exact h.elim
  | _ =>
    have e' : calls (n + 2) .is_own_name S [_] = .ok (.bl false) S := e
    simp [ev_is_sign, fb_is_sign, e', onS]
theorem ld' (S : Sto) : addD S c_LETTERS c_DIGITS = some (.str (letters ++ digits), S) := by
  unfold c_LETTERS c_DIGITS
  exact op_add_s S _ _ (by decide +kernel)
theorem word_d (n : Nat) (d : Dv) (S : Sto) (h : PlK d) : calls (n + 2) .is_word S [d] = .ok (.bl (onS wrdN d)) S := by
  have e := made_d n d (letters ++ digits) S h
  simp [ev_is_word, fb_is_word, ld', e]
  cases d <;> rfl
theorem h_eq : ("h" : Str) = ⟨#[104]⟩ := by decide +kernel
theorem z_eq : ("0" : Str) = ⟨#[48]⟩ := by decide +kernel
theorem cut_1 (z : Str) : cutS z (some 1) none = ⟨(z.cps.toList.drop 1).toArray⟩ := by
  unfold cutS
  have e : HT.sIx z.length 0 (some 1) = min 1 z.length := HT.sIx_nat _ _ 1
  rw [e, HT.sIx_none]
  congr 1
  congr 1
  by_cases h : z.length = 0
  · have : z.cps.toList = [] := by simpa [Str.length] using h
    rw [this]; simp
  · have e : min 1 z.length = 1 := by omega
    rw [e, List.take_of_length_le]
    rw [List.length_drop]
    exact Nat.le_refl _
theorem cut_str (S : Sto) (z : Str) (h : z.length ≤ 16777216) : cutD S (.str z) (some 1) none = some (.str ⟨(z.cps.toList.drop 1).toArray⟩, S) := by
  unfold cutD
  simp only
  rw [if_pos (by rw [sizeLine_eq]; exact h), cut_1]
theorem ix_str (S : Sto) (z : Str) (i c : Nat) (h : z.length ≤ 16777216) (hc : z.cps.toList[i]? = some c) : ixD S (.str z) (.int i) = some (.str ⟨#[c]⟩, S) := by
  unfold ixD
  simp only
  rw [if_pos (by rw [sizeLine_eq]; exact h), atI_nat', hc]
  rfl
theorem helper_s (n : Nat) (x : Str) (S : Sto) (hx : x.length ≤ 16777216) : calls (n + 2) .is_helper S [.str x] = .ok (.bl (hlpN x)) S := by
  obtain ⟨⟨cs⟩⟩ := x
  have hl : (⟨⟨cs⟩⟩ : Str).length = cs.length := rfl
  have len := len_str' S ⟨⟨cs⟩⟩ hx
  rw [hl] at len hx
  unfold hlpN
  simp only [hl]
  by_cases h2 : 2 ≤ cs.length
  · by_cases h3 : cs.length ≤ 3
    · have hd : decide (2 ≤ cs.length ∧ cs.length ≤ 3) = true := by simp; omega
      have g2 : (2 : Int) ≤ (cs.length : Int) := by omega
      have g3 : (cs.length : Int) ≤ 3 := by omega
      match cs, h2, h3 with
      | a :: b :: r, h2, h3 =>
        have i0 := ix_str S ⟨⟨a :: b :: r⟩⟩ 0 a hx rfl
        have i1 := ix_str S ⟨⟨a :: b :: r⟩⟩ 1 b hx rfl
        have ct := cut_str S ⟨⟨a :: b :: r⟩⟩ hx
        have hm := made_ok n ⟨⟨b :: r⟩⟩ digits S (by show (b :: r).length ≤ _; simp only [List.length_cons] at h3 ⊢; omega)
        have hm2 : madeOf ⟨⟨b :: r⟩⟩ digits = allC digits (b :: r) := by
          unfold madeOf
          have : decide (0 < (⟨⟨b :: r⟩⟩ : Str).length ∧ (⟨⟨b :: r⟩⟩ : Str).length ≤ 8) = true := by
            show decide (0 < (b :: r).length ∧ (b :: r).length ≤ 8) = true
            simp only [List.length_cons] at h3 ⊢
            simp; omega
          rw [this]; rfl
        rw [hm2] at hm
        have hm3 : calls (n + 1) .is_made_of S [.str ⟨⟨b :: r⟩⟩, c_DIGITS] = .ok (.bl (allC digits (b :: r))) S := hm
        obtain ⟨m, em⟩ : ∃ m : Int, m = ((a :: b :: r).length : Int) := ⟨_, rfl⟩
        rw [← em] at len g2 g3
        have i0 : ixD S (.str ⟨⟨a :: b :: r⟩⟩) (.int 0) = some (.str ⟨#[a]⟩, S) := i0
        have i1 : ixD S (.str ⟨⟨a :: b :: r⟩⟩) (.int 1) = some (.str ⟨#[b]⟩, S) := i1
        have ct : cutD S (.str ⟨⟨a :: b :: r⟩⟩) (some 1) none = some (.str ⟨⟨b :: r⟩⟩, S) := ct
        rw [hd]
        clear hd
        by_cases ha : a = 104
        · subst ha
          cases hq : allC digits (b :: r) with
          | false => simp [ev_is_helper, fb_is_helper, len, g2, g3, i0, h_eq, ct, hm3, hq]
          | true =>
            by_cases hb : b = 48
            · subst hb; simp [ev_is_helper, fb_is_helper, len, g2, g3, i0, i1, h_eq, z_eq, ct, hm3, hq]
            · simp [ev_is_helper, fb_is_helper, len, g2, g3, i0, i1, h_eq, z_eq, ct, hm3, hq, hb]
        · simp [ev_is_helper, fb_is_helper, len, g2, g3, i0, h_eq, ha]
    · have hd : decide (2 ≤ cs.length ∧ cs.length ≤ 3) = false := by simp; omega
      have g2 : (2 : Int) ≤ (cs.length : Int) := by omega
      have g3 : ¬ (cs.length : Int) ≤ 3 := by omega
      rw [hd]
      simp [ev_is_helper, fb_is_helper, len, g2, g3]
  · have hd : decide (2 ≤ cs.length ∧ cs.length ≤ 3) = false := by simp; omega
    have g2 : ¬ (2 : Int) ≤ (cs.length : Int) := by omega
    rw [hd]
    simp [ev_is_helper, fb_is_helper, len, g2]
theorem helper_d (n : Nat) (d : Dv) (S : Sto) (h : PlK d) : calls (n + 2) .is_helper S [d] = .ok (.bl (onS hlpN d)) S := by
  cases d with
  | str x => exact helper_s n x S h
  | hdl k => exact h.elim
  | glo k => exact h.elim
  | ty k => exact h.elim
  | obj _ _ => exact h.elim
  | rol _ => exact h.elim
  | ext _ _ _ _ => exact h.elim
  | _ => simp [ev_is_helper, fb_is_helper, onS]
def numsD : List Dv := [.str "1", .str "2", .str "3", .str "4", .str "5", .str "6", .str "7", .str "8", .str "9", .str "10", .str "11", .str "12", .str "13", .str "14", .str "15", .str "16", .str "17", .str "18", .str "19", .str "20", .str "21", .str "22", .str "23", .str "24", .str "25", .str "26", .str "27", .str "28", .str "29", .str "30", .str "31", .str "32", .str "33", .str "34", .str "35", .str "36", .str "37", .str "38", .str "39", .str "40", .str "41", .str "42", .str "43", .str "44", .str "45", .str "46", .str "47", .str "48", .str "49", .str "50", .str "51", .str "52", .str "53", .str "54", .str "55", .str "56", .str "57", .str "58", .str "59", .str "60", .str "61", .str "62", .str "63", .str "64", .str "65", .str "66", .str "67", .str "68", .str "69", .str "70", .str "71", .str "72", .str "73", .str "74", .str "75", .str "76", .str "77", .str "78", .str "79", .str "80", .str "81", .str "82", .str "83", .str "84", .str "85", .str "86", .str "87", .str "88", .str "89", .str "90", .str "91", .str "92", .str "93", .str "94", .str "95", .str "96", .str "97", .str "98", .str "99"]
end DL
namespace DL
open PySem L2
theorem allin_lc (x t : Str) (S : Sto) : ∀ cs : List Nat, lcR (gN 2) (tVal (eBin (inD true) (eVar 2) (eVar 1))) (eVar 2) [.va (.str x), .va (.str t), .no] (cs.map fun c => Dv.str ⟨#[c]⟩) S = .ok ((cs.filter fun c => !hasC t c).map fun c => Dv.str ⟨#[c]⟩) S
  | [] => rfl
  | c :: cs => by
    have ih := allin_lc x t S cs
    cases h : hasC t c with
    | true =>
      rw [List.map_cons, lcR_f (S1 := S) rfl (by simp [h]), ih, List.filter_cons_of_neg (by simp [h])]
    | false =>
      rw [List.map_cons, lcR_t (y := .str ⟨#[c]⟩) (S1 := S) (S2 := S) rfl (by simp [h]) (by simp) ih, List.filter_cons_of_pos (by simp [h])]
      rfl
theorem filter_empty (t : Str) : ∀ cs : List Nat, ((cs.filter fun c => !hasC t c).map fun c => Dv.str ⟨#[c]⟩).isEmpty = allC t cs
  | [] => rfl
  | c :: cs => by
    rw [allC_cons, ← filter_empty t cs]
    cases h : hasC t c with
    | true => rw [List.filter_cons_of_neg (by simp [h])]; rfl
    | false => rw [List.filter_cons_of_pos (by simp [h])]; rfl
theorem allin_s (n : Nat) (x t : Str) (S : Sto) (hx : x.length ≤ 16777216) : calls (n + 1) .l_all_in S [.str x, .str t] = .ok (.bl (allC t x.cps.toList)) S := by
  have hs : strL x = x.cps.toList.map fun c => Dv.str ⟨#[c]⟩ := rfl
  have hl : ((x.cps.toList.filter fun c => !hasC t c).map fun c => Dv.str ⟨#[c]⟩).length ≤ 16777216 := by
    rw [List.length_map]
    exact Nat.le_trans (List.length_filter_le _ _) hx
  have lc := allin_lc x t S x.cps.toList
  have e := eq_lst_nil S ((x.cps.toList.filter fun c => !hasC t c).map fun c => Dv.str ⟨#[c]⟩)
  rw [filter_empty] at e
  generalize ((x.cps.toList.filter fun c => !hasC t c).map fun c => Dv.str ⟨#[c]⟩) = fl at *
  simp [ev_l_all_in, fb_l_all_in, hs, lc, kLcEnd' S fl hl, e]
theorem nums_lc (x0 x1 x2 x3 : Sl) (S : Sto) : lcR (gN 5) tTrue (eCB strD (aCons (eVar 5) aNil)) [x0, x1, x2, x3, .no, .no] (rngD 1 99) S = .ok numsD S := by kernel_rfl
def digs : List Nat := [48, 49, 50, 51, 52, 53, 54, 55, 56, 57]
theorem dig_mem (a : Nat) : hasC digits a = true ↔ a ∈ digs := by
  have : digits.cps.toList = digs := by decide +kernel
  unfold hasC
  rw [this, List.contains_iff_mem]
def numsC : List (List Nat) := [[49], [50], [51], [52], [53], [54], [55], [56], [57], [49, 48], [49, 49], [49, 50], [49, 51], [49, 52], [49, 53], [49, 54], [49, 55], [49, 56], [49, 57], [50, 48], [50, 49], [50, 50], [50, 51], [50, 52], [50, 53], [50, 54], [50, 55], [50, 56], [50, 57], [51, 48], [51, 49], [51, 50], [51, 51], [51, 52], [51, 53], [51, 54], [51, 55], [51, 56], [51, 57], [52, 48], [52, 49], [52, 50], [52, 51], [52, 52], [52, 53], [52, 54], [52, 55], [52, 56], [52, 57], [53, 48], [53, 49], [53, 50], [53, 51], [53, 52], [53, 53], [53, 54], [53, 55], [53, 56], [53, 57], [54, 48], [54, 49], [54, 50], [54, 51], [54, 52], [54, 53], [54, 54], [54, 55], [54, 56], [54, 57], [55, 48], [55, 49], [55, 50], [55, 51], [55, 52], [55, 53], [55, 54], [55, 55], [55, 56], [55, 57], [56, 48], [56, 49], [56, 50], [56, 51], [56, 52], [56, 53], [56, 54], [56, 55], [56, 56], [56, 57], [57, 48], [57, 49], [57, 50], [57, 51], [57, 52], [57, 53], [57, 54], [57, 55], [57, 56], [57, 57]]
theorem nums_c : numsD = numsC.map fun cs => Dv.str ⟨⟨cs⟩⟩ := by kernel_rfl
theorem in_nums (ys : List Nat) : inF (.str ⟨⟨ys⟩⟩) numsD = numsC.contains ys := by
  rw [nums_c]
  unfold inF
  rw [List.any_map]
  induction numsC with
  | nil => rfl
  | cons z r ih =>
    rw [List.any_cons, List.contains_cons, ih]
    congr 1
    show ((⟨⟨z⟩⟩ : Str) == ⟨⟨ys⟩⟩) = (ys == z)
    rw [Bool.eq_iff_iff, beq_iff_eq, beq_iff_eq]
    constructor
    · intro h; injection h with h; injection h with h; exact h.symm
    · intro h; rw [h]
theorem nums_fwd : ∀ ys ∈ numsC, (ys.length = 1 ∨ ys.length = 2) ∧ allC digits ys = true ∧ ys[0]? ≠ some 48 := by decide +kernel
theorem nums_one : ∀ a ∈ digs, a ≠ 48 → [a] ∈ numsC := by decide +kernel
theorem nums_two : ∀ a ∈ digs, a ≠ 48 → ∀ b ∈ digs, [a, b] ∈ numsC := by decide +kernel
theorem hlp_iff (cs : List Nat) : hlpN ⟨⟨cs⟩⟩ = (decide (cs[0]? = some 104) && numsC.contains (cs.drop 1)) := by
  rw [Bool.eq_iff_iff]
  unfold hlpN
  simp only [Bool.and_eq_true, decide_eq_true_eq, Bool.not_eq_true', decide_eq_false_iff_not, List.contains_iff_mem]
  show (((2 ≤ cs.length ∧ cs.length ≤ 3) ∧ cs[0]? = some 104) ∧ allC digits (cs.drop 1) = true) ∧ ¬ cs[1]? = some 48 ↔ _
  constructor
  · rintro ⟨⟨⟨⟨h2, h3⟩, h0⟩, ha⟩, h1⟩
    refine ⟨h0, ?_⟩
    match cs, h2, h3 with
    | [c, a], _, _ =>
      simp only [List.drop_succ_cons, List.drop_zero, allC_cons, allC_nil, Bool.and_true] at ha ⊢
      exact nums_one a ((dig_mem a).mp ha) (by simpa using h1)
    | [c, a, b], _, _ =>
      simp only [List.drop_succ_cons, List.drop_zero, allC_cons, allC_nil, Bool.and_true, Bool.and_eq_true] at ha ⊢
      exact nums_two a ((dig_mem a).mp ha.1) (by simpa using h1) b ((dig_mem b).mp ha.2)
    | _ :: _ :: _ :: _ :: _, _, h3 => simp at h3
  · rintro ⟨h0, hm⟩
    obtain ⟨hl, ha, hz⟩ := nums_fwd _ hm
    have hl2 : cs.length = 2 ∨ cs.length = 3 := by
      rw [List.length_drop] at hl
      omega
    refine ⟨⟨⟨by omega, h0⟩, ha⟩, ?_⟩
    rw [List.getElem?_drop] at hz
    exact hz
theorem inRes (x : Str) (S : Sto) : inD true S (.str x) (.tup [.str "do", .str "if", .str "else", .str "while", .str "end"]) = some (.bl (!resv x), S) := rfl
theorem in_nums' (S : Sto) (x : Str) : inD false S (.str x) (.lst numsD) = some (.bl (numsC.contains x.cps.toList), S) := by
  obtain ⟨⟨cs⟩⟩ := x
  rw [← in_nums]
  show ((asQ S (.lst numsD)).bind fun l => if flatD (.str ⟨⟨cs⟩⟩) && l.all flatD then some (Dv.bl (if false then !inF (.str ⟨⟨cs⟩⟩) l else inF (.str ⟨⟨cs⟩⟩) l), S) else none) = _
  have e : asQ S (.lst numsD) = some numsD := rfl
  have e2 : numsD.all flatD = true := by decide +kernel
  rw [e]
  simp only [Option.bind_some, e2, Bool.and_true]
  rfl
end DL
namespace DL
open PySem L2
section
variable {α β : Type}
def Wp (r : Res α) (Q : Res α → Prop) : Prop := Q r
def Wo (o : Out) (Q : Out → Prop) : Prop := Q o
def kb (k : α → Sto → Res β) (Q : Res β → Prop) (r : Res α) : Prop := Q (bnd r k)
def kr (Q : Res Dv → Prop) (o : Out) : Prop := Q (kRun o)
def kq (s : DS) (Q : Out → Prop) (o : Out) : Prop := Q (kSeq s o)
def ks (k : Env → α → Sto → Out) (e : Env) (Q : Out → Prop) (r : Res α) : Prop := Q (kS k e r)
def kl (Q : Res (List Dv) → Prop) (r : Res (List Dv)) : Prop := Q (kLcEnd r)
variable {k : α → Sto → Res β} {r : Res α} {Q : Res β → Prop} {QA : Res α → Prop} {QD : Res Dv → Prop} {QL : Res (List Dv) → Prop} {QO : Out → Prop} {kk : Env → α → Sto → Out} {s : DS} {e e' : Env} {S : Sto} {a : α} {d : Dv} {c : Str} {fs : List (Str × Dv)} {o : Out} {l : List Dv} {rl : Res (List Dv)}
@[simp] theorem Wp_bnd : Wp (bnd r k) Q = Wp r (kb k Q) := rfl
@[simp] theorem Wp_kb_ok : Wp (.ok a S) (kb k Q) = Wp (k a S) Q := rfl
@[simp] theorem Wp_kb_ex : Wp (.ex c fs S) (kb k Q) = Wp (.ex c fs S) Q := rfl
@[simp] theorem Wp_run : Wp (kRun o) QD = Wo o (kr QD) := rfl
@[simp] theorem Wo_kr_rt : Wo (.rt d S) (kr QD) = Wp (.ok d S) QD := rfl
@[simp] theorem Wo_kr_nx : Wo (.nx e S) (kr QD) = Wp (.ok .non S) QD := rfl
@[simp] theorem Wo_kr_ex : Wo (.ex c fs e S) (kr QD) = Wp (.ex c fs S) QD := rfl
@[simp] theorem Wo_seq : Wo (kSeq s o) QO = Wo o (kq s QO) := rfl
@[simp] theorem Wo_kq_nx : Wo (.nx e S) (kq s QO) = Wo (s e S) QO := rfl
@[simp] theorem Wo_kq_rt : Wo (.rt d S) (kq s QO) = Wo (.rt d S) QO := rfl
@[simp] theorem Wo_kq_bk : Wo (.bk e S) (kq s QO) = Wo (.bk e S) QO := rfl
@[simp] theorem Wo_kq_ct : Wo (.ct e S) (kq s QO) = Wo (.ct e S) QO := rfl
@[simp] theorem Wo_kq_ex : Wo (.ex c fs e S) (kq s QO) = Wo (.ex c fs e S) QO := rfl
@[simp] theorem Wo_kS : Wo (kS kk e r) QO = Wp r (ks kk e QO) := rfl
@[simp] theorem Wp_ks_ok : Wp (.ok a S) (ks kk e QO) = Wo (kk e a S) QO := rfl
@[simp] theorem Wp_ks_ex : Wp (.ex c fs S) (ks kk e QO) = Wo (.ex c fs e S) QO := rfl
@[simp] theorem Wp_lcEnd : Wp (kLcEnd rl) QL = Wp rl (kl QL) := rfl
end
/-- a loop: I of what is left -/
def fo (I : Env → Sto → Prop) (Q : Out → Prop) : Out → Prop
  | .nx e S => I e S
  | .ct e S => I e S
  | .bk e S => Wo (.nx e S) Q
  | .no => False
  | o => Wo o Q
section
variable {gd : DG} {s : DS} {Q : Out → Prop} {I : Env → Sto → Prop} {e : Env} {S : Sto} {d : Dv} {c : Str} {fs : List (Str × Dv)}
@[simp] theorem Wo_fo_bk : Wo (.bk e S) (fo I Q) = Wo (.nx e S) Q := rfl
@[simp] theorem Wo_fo_rt : Wo (.rt d S) (fo I Q) = Wo (.rt d S) Q := rfl
@[simp] theorem Wo_fo_ex : Wo (.ex c fs e S) (fo I Q) = Wo (.ex c fs e S) Q := rfl
end
/-- a comprehension -/
def lq (I : Sto → Prop) (P : Dv → Prop) : Res Dv → Prop
  | .ok d S => I S ∧ P d
  | _ => False
def lt (I : Sto → Prop) (te : DE) (e1 : Env) (P : Option Dv → Prop) : Res Bool → Prop
  | .ok true S => Wp (te e1 S) (lq I fun d => P (some d))
  | .ok false S => I S ∧ P none
  | _ => False
section
variable {I : Sto → Prop} {P : Dv → Prop} {PO : Option Dv → Prop} {te : DE} {e1 : Env} {S : Sto} {d : Dv}
@[simp] theorem Wp_lq : Wp (.ok d S) (lq I P) = (I S ∧ P d) := rfl
@[simp] theorem Wp_lt_t : Wp (.ok true S) (lt I te e1 PO) = Wp (te e1 S) (lq I fun d => PO (some d)) := rfl
@[simp] theorem Wp_lt_f : Wp (.ok false S) (lt I te e1 PO) = (I S ∧ PO none) := rfl
end
/-- what comes of each: Fa d (some y) if y is kept for d, Fa d none if nothing is -/
inductive Keep (Fa : Dv → Option Dv → Prop) : List Dv → List Dv → Prop
  | nil : Keep Fa [] []
  | put {d y : Dv} {l m : List Dv} : Fa d (some y) → Keep Fa l m → Keep Fa (d :: l) (y :: m)
  | out {d : Dv} {l m : List Dv} : Fa d none → Keep Fa l m → Keep Fa (d :: l) m
theorem Keep.len {Fa : Dv → Option Dv → Prop} : ∀ {l m : List Dv}, Keep Fa l m → m.length ≤ l.length
  | _, _, .nil => Nat.le_refl _
  | _, _, .put _ t => by simp only [List.length_cons]; have := t.len; omega
  | _, _, .out _ t => by simp only [List.length_cons]; have := t.len; omega
theorem Keep.all {Fa : Dv → Option Dv → Prop} {P : Dv → Prop} (h : ∀ d y, Fa d (some y) → P y) : ∀ {l m : List Dv}, Keep Fa l m → ∀ y ∈ m, P y
  | _, _, .nil, _, hy => nomatch hy
  | _, _, .put a t, y, hy => by
    rcases List.mem_cons.mp hy with rfl | hy
    · exact h _ _ a
    · exact t.all h y hy
  | _, _, .out _ t, y, hy => t.all h y hy
def kMkB (c : Str) (dl : List Dv) (g : DF) (as : List Dv) (S : Sto) : Res Dv := kMk c g (as ++ dl) S
@[simp] theorem ev_eMk (c : Str) (dl : List Dv) (g : DF) (fa : DA) (e : Env) (S : Sto) : eMk c dl g fa e S = bnd (fa e S) (kMkB c dl g) := rfl
@[simp] theorem isnot_bb (S : Sto) (p q : Bool) : pu2 (isD true) S (.bl p) (.bl q) = some (.bl (!decide (p = q)), S) := rfl
@[simp] theorem ev_tTrue (e : Env) (S : Sto) : tTrue e S = .ok true S := rfl
end DL
namespace DL
open PySem L2
def ansD (d : Dv) : List Dv := [.bl (onS ownN d), .bl (onS hlpN d), .bl (onS wrdN d), .bl (onS sgnN d)]
theorem l_due_s (n : Nat) (x : Str) (S : Sto) (hx : x.length ≤ 16777216) : calls (n + 2) .l_due S [.str x] = .ok (.lst (ansD (.str x))) S := by
  have ai := allin_s n x "abcdefghijklmnopqrstuvwxyz" S hx
  have aw := allin_s n x (letters ++ digits) S hx
  have len := len_str' S x hx
  have ldd : addD S (.str "abcdefghijklmnopqrstuvwxyz") (.str "0123456789") = some (.str (letters ++ digits), S) := op_add_s S _ _ (by decide +kernel)
  obtain ⟨m, em⟩ : ∃ m : Int, m = (x.length : Int) := ⟨_, rfl⟩
  rw [← em] at len
  show _ = Res.ok (Dv.lst [.bl (ownN x), .bl (hlpN x), .bl (wrdN x), .bl (sgnN x)]) S
  by_cases h : 1 ≤ x.length ∧ x.length < 9
  · have hm : 1 ≤ m ∧ m < 9 := by omega
    have hd : decide (0 < x.length ∧ x.length ≤ 8) = true := decide_eq_true (by omega)
    have hc : ∃ c cs, x = ⟨⟨c :: cs⟩⟩ := by
      obtain ⟨⟨cs⟩⟩ := x
      cases cs with
      | nil => exact absurd h.1 (by decide)
      | cons c cs => exact ⟨c, cs, rfl⟩
    have own : ownN x = (allC letters x.cps.toList && !resv x) := by unfold ownN madeOf; rw [hd]; simp
    have wrd : wrdN x = allC (letters ++ digits) x.cps.toList := by unfold wrdN madeOf; rw [hd]; simp
    have ai' : calls (n + 1) .l_all_in S [.str x, .str "abcdefghijklmnopqrstuvwxyz"] = .ok (.bl (allC letters x.cps.toList)) S := ai
    unfold sgnN
    rw [own, wrd]
    obtain ⟨c, cs, rfl⟩ := hc
    have hh := hlp_iff (c :: cs)
    have i0 : ixD S (.str ⟨⟨c :: cs⟩⟩) (.int 0) = some (.str ⟨#[c]⟩, S) := ix_str S ⟨⟨c :: cs⟩⟩ 0 c hx rfl
    have ct : cutD S (.str ⟨⟨c :: cs⟩⟩) (some 1) none = some (.str ⟨⟨cs⟩⟩, S) := cut_str S ⟨⟨c :: cs⟩⟩ hx
    have inn : inD false S (.str ⟨⟨cs⟩⟩) (.lst numsD) = some (.bl (numsC.contains cs), S) := in_nums' S ⟨⟨cs⟩⟩
    have nl := fun x0 x1 x2 x3 => nums_lc x0 x1 x2 x3 S
    have ke : kLcEnd (.ok numsD S) = .ok numsD S := kLcEnd' S numsD (by decide +kernel)
    have rg : rngR2 [.int 1, .int 100] S = .ok (rngD 1 99) S := rngR2_ok S 1 100 (by decide)
    have ir := inRes ⟨⟨c :: cs⟩⟩ S
    simp only [List.getElem?_cons_zero, List.drop_succ_cons, List.drop_zero, Option.some.injEq] at hh
    rw [hh]
    clear hh own wrd ai
    have hsp : eqE S (.str ⟨⟨c :: cs⟩⟩) (.str "split") = some (.bl (decide ((⟨⟨c :: cs⟩⟩ : Str) = "split")), S) := by simp
    have hsn : neE S (.str ⟨⟨c :: cs⟩⟩) (.str "split") = some (.bl (!decide ((⟨⟨c :: cs⟩⟩ : Str) = "split")), S) := by simp
    generalize hsd : decide ((⟨⟨c :: cs⟩⟩ : Str) = "split") = sd at *
    generalize resv ⟨⟨c :: cs⟩⟩ = rb at *
    generalize hla : allC letters (⟨⟨c :: cs⟩⟩ : Str).cps.toList = ab at *
    generalize allC (letters ++ digits) (⟨⟨c :: cs⟩⟩ : Str).cps.toList = wb at *
    generalize numsC.contains cs = nb at *
    by_cases h0 : c = 104
    · subst h0
      cases ab <;> cases rb <;> simp [ev_l_due, fb_l_due, len, hm, i0, h_eq, ct, rg, nl, ke, inn, ai', aw, ir, ldd] <;> exact hsd
    · cases ab <;> cases rb <;> simp [ev_l_due, fb_l_due, len, hm, i0, h_eq, h0, ai', aw, ir, ldd] <;> exact hsd
  · have hm : ¬ (1 ≤ m ∧ m < 9) := by omega
    have hd : decide (0 < x.length ∧ x.length ≤ 8) = false := decide_eq_false (by omega)
    have hh : hlpN x = false := by
      unfold hlpN
      have : decide (2 ≤ x.length ∧ x.length ≤ 3) = false := decide_eq_false (by omega)
      rw [this]; rfl
    have own : ownN x = false := by unfold ownN madeOf; rw [hd]; simp
    have wrd : wrdN x = false := by unfold wrdN madeOf; rw [hd]; simp
    have sg : sgnN x = false := by unfold sgnN; rw [own]; rfl
    rw [hh, own, wrd, sg]
    simp [ev_l_due, fb_l_due, len, hm]
theorem l_due_n (n : Nat) (d : Dv) (S : Sto) (h : isiD S [d, .ty "str"] = some (.bl false, S)) (hs : ∀ p, onS p d = false) : calls (n + 2) .l_due S [d] = .ok (.lst (ansD d)) S := by
  unfold ansD
  rw [hs, hs, hs, hs]
  simp [ev_l_due, fb_l_due, h]
end DL
namespace DL
open PySem L2
def StrOk (x : Str) : Prop := x.length ≤ 6000 ∧ ∀ c ∈ x.cps.toList, c < 65536
def sOkB (x : Str) : Bool := decide (x.length ≤ 6000) && x.cps.toList.all fun c => decide (c < 65536)
theorem sOk_of {x : Str} (h : sOkB x = true) : StrOk x := by
  unfold sOkB at h
  rw [Bool.and_eq_true] at h
  exact ⟨of_decide_eq_true h.1, fun c hc => of_decide_eq_true (List.all_eq_true.mp h.2 c hc)⟩
theorem app_len (x y : Str) : (x ++ y).length = x.length + y.length := by
  show (x.cps ++ y.cps).size = _
  rw [Array.size_append]; rfl
theorem app_cps (x y : Str) : (x ++ y).cps.toList = x.cps.toList ++ y.cps.toList := by
  show (x.cps ++ y.cps).toList = _
  rw [Array.toList_append]
theorem StrOk.app {x y : Str} (hx : StrOk x) (hy : StrOk y) (h : x.length + y.length ≤ 6000) : StrOk (x ++ y) := by
  refine ⟨by rw [app_len]; exact h, fun c hc => ?_⟩
  rw [app_cps] at hc
  rcases List.mem_append.mp hc with hc | hc
  · exact hx.2 c hc
  · exact hy.2 c hc
theorem StrOk.cut {x : Str} (hx : StrOk x) (lo hi : Option Int) : StrOk (cutS x lo hi) := by
  have hs : ∀ c ∈ (cutS x lo hi).cps.toList, c ∈ x.cps.toList := fun c hc => by
    unfold cutS at hc
    simp only at hc
    exact List.mem_of_mem_drop (List.mem_of_mem_take hc)
  refine ⟨?_, fun c hc => hx.2 c (hs c hc)⟩
  unfold cutS
  show (List.toArray _).size ≤ 6000
  have := hx.1
  have e : x.cps.toList.length = x.length := by simp [Str.length]
  simp only [List.size_toArray, List.length_take, List.length_drop, e]
  omega
def oddL : List Dv := [.non, .bl true, .int 0, .int 7, .tup [.str "a"], .lst [.str "a"], .dic [(.inr "a", .int 0)], .tup [], .lst [.str "h", .str "1"], .tup [.str "name", .str "a"]]
def ThOk (d : Dv) : Prop := (∃ x, d = .str x ∧ StrOk x) ∨ d ∈ oddL
theorem repr_s (x : Str) (h : StrOk x) (S : Sto) : reprD S [.str x] = some (.str (PySem.reprText x), S) := by
  have hl := PySem.StrLaws.reprText_len x fun c hc => Nat.lt_trans (h.2 c hc) (by decide)
  have h1 := h.1
  have e : (PyData.str x).shown = PySem.reprText x := rfl
  have h2 : decide ((PyData.str x).shown.length ≤ sizeLine) = true := by
    rw [e, sizeLine_eq]
    exact decide_eq_true (by omega)
  show (if ((PyData.str x).showable && decide ((PyData.str x).depth ≤ 60) && decide ((PyData.str x).shown.length ≤ sizeLine)) = true then some (Dv.str (PyData.str x).shown, S) else none) = _
  rw [h2, e]
  rfl
theorem th_repr {d : Dv} (h : ThOk d) : ∃ s, ∀ S, reprD S [d] = some (.str s, S) := by
  rcases h with ⟨x, rfl, h⟩ | h
  · exact ⟨_, repr_s x h⟩
  · unfold oddL at h
    simp only [List.mem_cons, List.not_mem_nil, or_false] at h
    rcases h with rfl | rfl | rfl | rfl | rfl | rfl | rfl | rfl | rfl | rfl
    · exact ⟨"None", fun S => by kernel_rfl⟩
    · exact ⟨"True", fun S => by kernel_rfl⟩
    · exact ⟨"0", fun S => by kernel_rfl⟩
    · exact ⟨"7", fun S => by kernel_rfl⟩
    · exact ⟨"('a',)", fun S => by kernel_rfl⟩
    · exact ⟨"['a']", fun S => by kernel_rfl⟩
    · exact ⟨"{'a': 0}", fun S => by kernel_rfl⟩
    · exact ⟨"()", fun S => by kernel_rfl⟩
    · exact ⟨"['h', '1']", fun S => by kernel_rfl⟩
    · exact ⟨"('name', 'a')", fun S => by kernel_rfl⟩
theorem th_ans {d : Dv} (h : ThOk d) (n : Nat) (S : Sto) : calls (n + 2) .l_due S [d] = .ok (.lst (ansD d)) S ∧ PlK d := by
  rcases h with ⟨x, rfl, h⟩ | h
  · have hx : x.length ≤ 16777216 := by have := h.1; omega
    exact ⟨l_due_s n x S hx, hx⟩
  · unfold oddL at h
    simp only [List.mem_cons, List.not_mem_nil, or_false] at h
    rcases h with rfl | rfl | rfl | rfl | rfl | rfl | rfl | rfl | rfl | rfl <;> exact ⟨l_due_n n _ S (by simp) (fun _ => rfl), trivial⟩
def TakeF (f b : Nat) : Prop := ∀ S, BagAt S b → ∀ n : Int, 0 < n → n < 1073741824 → ∃ r o, calls f .l_take S [.hdl b, .int n] = .ok (.int r) (S.set b o) ∧ 0 ≤ r ∧ r < n ∧ BagOk o
theorem takeF (f b : Nat) : TakeF (f + 1) b := fun S h n h1 h2 => take_ok f h h1 h2
theorem kl_ok (l : List Dv) (S : Sto) (h : l.length ≤ 100 := by simp) : kLst l S = .ok l S := kLst_ok _ _ (line_le _ (by omega))
theorem one_ok {f b : Nat} (T : TakeF f b) {S : Sto} {l : List Dv} (hB : BagAt S b) (h0 : l ≠ []) (h1 : l.length < 1000000) : ∃ d o, calls (f + 1) .l_one S [.hdl b, .lst l] = .ok d (S.set b o) ∧ d ∈ l ∧ BagOk o := by
  have hl : 0 < l.length := List.length_pos_iff.mpr h0
  obtain ⟨r, o, e, r0, r1, ho⟩ := T S hB l.length (by omega) (by omega)
  obtain ⟨d, hd, hm⟩ := atI_r r0 r1
  exact ⟨d, o, by simp [ev_l_one, fb_l_one, e, hd], hm, ho⟩
/-- words and what is near them -/
def keptL : List Dv := [.str "do", .str "if", .str "else", .str "while", .str "end", .str "split", .str "split2", .str "add"]
def kB : Dv → Bool
  | .str x => decide (x.length ≤ 20) && sOkB x && sOkB (Txt.upper x)
  | _ => false
theorem kept_l : ∀ d ∈ keptL, ∃ x, d = .str x ∧ x.length ≤ 20 ∧ StrOk x ∧ StrOk (Txt.upper x) := fun d hd => by
  have h := List.all_eq_true.mp (by decide +kernel : keptL.all kB = true) d hd
  cases d with
  | str x =>
    have h : (decide (x.length ≤ 20) && sOkB x && sOkB (Txt.upper x)) = true := h
    simp only [Bool.and_eq_true] at h
    exact ⟨x, rfl, of_decide_eq_true h.1.1, sOk_of h.1.2, sOk_of h.2⟩
  | _ => cases h
theorem kept_ok {f b : Nat} (T : TakeF f b) (T1 : TakeF (f + 1) b) {S : Sto} (hB : BagAt S b) : ∃ d S', calls (f + 2) .l_kept S [.hdl b] = .ok d S' ∧ BagAt S' b ∧ ThOk d := by
  obtain ⟨w, o1, e1, hw, ho1⟩ := one_ok T hB (l := keptL) (by decide) (by decide)
  obtain ⟨x, rfl, x1, x2, x3⟩ := kept_l w hw
  have B1 := hB.set ho1
  obtain ⟨r, o2, e2, r0, r1, ho2⟩ := T1 _ B1 7 (by decide) (by decide)
  have z1 : StrOk "s" := sOk_of (by decide +kernel)
  have z2 : StrOk " " := sOk_of (by decide +kernel)
  have z3 : StrOk "1" := sOk_of (by decide +kernel)
  have l1 : ("s" : Str).length = 1 := by decide +kernel
  have l2 : (" " : Str).length = 1 := by decide +kernel
  have l3 : ("1" : Str).length = 1 := by decide +kernel
  have sz := sizeLine_eq
  have a1 : ∀ S, addD S (.str x) (.str "s") = some (.str (x ++ "s"), S) := fun S => op_add_s S _ _ (by omega)
  have a2 : ∀ S, addD S (.str " ") (.str x) = some (.str (" " ++ x), S) := fun S => op_add_s S _ _ (by omega)
  have a3 : ∀ S, addD S (.str x) (.str " ") = some (.str (x ++ " "), S) := fun S => op_add_s S _ _ (by omega)
  have a4 : ∀ S, addD S (.str x) (.str "1") = some (.str (x ++ "1"), S) := fun S => op_add_s S _ _ (by omega)
  have ct : ∀ S, cutD S (.str x) none (some (-1)) = some (.str (cutS x none (some (-1))), S) := fun S => if_pos (by omega)
  have up : ∀ S, kUp (.str x) S = .ok (.str (Txt.upper x)) S := fun S => if_pos (by omega)
  let l : List Dv := [.str x, .str (x ++ "s"), .str (cutS x none (some (-1))), .str (Txt.upper x), .str (" " ++ x), .str (x ++ " "), .str (x ++ "1")]
  obtain ⟨d, hd, hm⟩ := atI_r (l := l) r0 r1
  have e1 : calls (f + 1) .l_one S [.hdl b, .lst [.str "do", .str "if", .str "else", .str "while", .str "end", .str "split", .str "split2", .str "add"]] = .ok (.str x) (S.set b o1) := e1
  have hd : atI [Dv.str x, .str (x ++ "s"), .str (cutS x none (some (-1))), .str (Txt.upper x), .str (" " ++ x), .str (x ++ " "), .str (x ++ "1")] r = some d := hd
  refine ⟨d, (S.set b o1).set b o2, ?_, B1.set ho2, ?_⟩
  · have k1 := kl_ok keptL S (by decide)
    have k2 := kl_ok l (S.set b o1) (by show 7 ≤ 100; decide)
    have k1 : kLst [.str "do", .str "if", .str "else", .str "while", .str "end", .str "split", .str "split2", .str "add"] S = .ok keptL S := k1
    have k2 : kLst [Dv.str x, .str (x ++ "s"), .str (cutS x none (some (-1))), .str (Txt.upper x), .str (" " ++ x), .str (x ++ " "), .str (x ++ "1")] (S.set b o1) = .ok l (S.set b o1) := k2
    have e1 : calls (f + 1) .l_one S [.hdl b, .lst keptL] = .ok (.str x) (S.set b o1) := e1
    have hd : atI l r = some d := hd
    generalize keptL = kl at *
    generalize l = l2 at *
    simp [ev_l_kept, fb_l_kept, e1, k1, k2, a1, a2, a3, a4, ct, eUp, up, e2, hd]
  · simp only [l, List.mem_cons, List.not_mem_nil, or_false] at hm
    refine .inl ?_
    rcases hm with rfl | rfl | rfl | rfl | rfl | rfl | rfl
    · exact ⟨_, rfl, x2⟩
    · exact ⟨_, rfl, x2.app z1 (by omega)⟩
    · exact ⟨_, rfl, x2.cut _ _⟩
    · exact ⟨_, rfl, x3⟩
    · exact ⟨_, rfl, z2.app x2 (by omega)⟩
    · exact ⟨_, rfl, x2.app z2 (by omega)⟩
    · exact ⟨_, rfl, x2.app z3 (by omega)⟩
/-- numbers with signs ahead -/
def nearL : List Dv := [.str "h", .str "h", .str "h", .str "H", .str "k", .str "hh", .str "h0"]
def nB : Dv → Bool
  | .str x => decide (x.length ≤ 20) && sOkB x
  | _ => false
theorem num_ok : ∀ k : Nat, k < 102 → nB (.str (Str.ofString (toString (k : Int)))) = true := by decide +kernel
theorem nB_ok {x : Str} (h : nB (.str x) = true) : x.length ≤ 20 ∧ StrOk x := by
  have h : (decide (x.length ≤ 20) && sOkB x) = true := h
  rw [Bool.and_eq_true] at h
  exact ⟨of_decide_eq_true h.1, sOk_of h.2⟩
theorem near_ok {f b : Nat} (T : TakeF f b) {S : Sto} (hB : BagAt S b) : ∃ d S', calls (f + 1) .l_near S [.hdl b] = .ok d S' ∧ BagAt S' b ∧ ThOk d := by
  obtain ⟨r, o1, e1, r0, r1, ho1⟩ := T S hB 102 (by decide) (by decide)
  have B1 := hB.set ho1
  obtain ⟨q, o2, e2, q0, q1, ho2⟩ := T _ B1 7 (by decide) (by decide)
  obtain ⟨d, hd, hm⟩ := atI_r (l := nearL) q0 q1
  have hd : atI [Dv.str "h", .str "h", .str "h", .str "H", .str "k", .str "hh", .str "h0"] q = some d := hd
  obtain ⟨m, rfl⟩ : ∃ m : Nat, r = (m : Int) := ⟨r.toNat, by omega⟩
  obtain ⟨k1, k2⟩ := nB_ok (num_ok m (by omega))
  have hn := List.all_eq_true.mp (by decide +kernel : nearL.all nB = true) d hm
  have sz := sizeLine_eq
  have st : ∀ S, strD S [.int (m : Int)] = some (.str (Str.ofString (toString (m : Int))), S) := fun S => if_pos (by
    have : (m : Int).natAbs = m := rfl
    rw [this]
    exact Nat.lt_of_le_of_lt (Nat.log2_le_self m) (by omega))
  cases d with
  | str x =>
    obtain ⟨j1, j2⟩ := nB_ok hn
    have a1 : ∀ S, addD S (.str x) (.str (Str.ofString (toString (m : Int)))) = some (.str (x ++ Str.ofString (toString (m : Int))), S) := fun S => op_add_s S _ _ (by omega)
    refine ⟨.str (x ++ Str.ofString (toString (m : Int))), (S.set b o1).set b o2, ?_, B1.set ho2, .inl ⟨_, rfl, j2.app k2 (by omega)⟩⟩
    have kq : kLst [Dv.str "h", .str "h", .str "h", .str "H", .str "k", .str "hh", .str "h0"] (S.set b o1) = .ok nearL (S.set b o1) := kl_ok nearL _ (by decide)
    have hd : atI nearL q = some (.str x) := hd
    generalize nearL = nl at *
    generalize Str.ofString (toString (m : Int)) = ms at *
    simp [ev_l_near, fb_l_near, e1, e2, hd, st, a1, kq]
  | _ => cases hn
end DL
namespace DL
open PySem L2
theorem chr_at {menu : Str} (hl : menu.length ≤ 16777216) (hc : ∀ c ∈ menu.cps.toList, c < 65536) {r : Int} (h0 : 0 ≤ r) (h1 : r < menu.length) : ∃ c, c < 65536 ∧ ∀ S, ixD S (.str menu) (.int r) = some (.str ⟨#[c]⟩, S) := by
  obtain ⟨m, rfl⟩ : ∃ m : Nat, r = (m : Int) := ⟨r.toNat, by omega⟩
  have e : menu.cps.toList.length = menu.length := by simp [Str.length]
  have hm : m < menu.cps.toList.length := by omega
  exact ⟨menu.cps.toList[m], hc _ (List.getElem_mem hm), fun S => ix_str S menu m _ hl (List.getElem?_eq_getElem hm)⟩
def chrs (cs : List Nat) : List Dv := cs.map fun c => Dv.str ⟨#[c]⟩
theorem lc_string {f b : Nat} (T : TakeF f b) {menu : Str} {N : Int} (hN : N = menu.length) (hN0 : 0 < N) (hl : menu.length ≤ 16777) (hc : ∀ c ∈ menu.cps.toList, c < 65536) (x2 : Sl) : ∀ (l : List Dv) {S : Sto}, BagAt S b →
    ∃ cs S', lcR (gN 3) tTrue (eBin ixD (eVar 1) (eCall (calls f .l_take) (aCons (eVar 0) (aCons (eC (.int N)) aNil)))) [.va (.hdl b), .va (.str menu), x2, .no] l S = .ok (chrs cs) S' ∧ BagAt S' b ∧ cs.length = l.length ∧ ∀ c ∈ cs, c < 65536
  | [], S, B => ⟨[], S, rfl, B, rfl, by simp⟩
  | d :: l, S, B => by
    obtain ⟨r, o, e, r0, r1, ho⟩ := T S B N hN0 (by omega)
    obtain ⟨c, hc1, hc2⟩ := chr_at (menu := menu) (by omega) hc r0 (by omega)
    obtain ⟨cs, S', e2, B2, h1, h2⟩ := lc_string T hN hN0 hl hc x2 l (B.set ho)
    refine ⟨c :: cs, S', ?_, B2, by simp [h1], fun z hz => ?_⟩
    · exact lcR_t (y := .str ⟨#[c]⟩) (S1 := S) (S2 := S.set b o) rfl rfl (by simp [e, hc2]) e2
    · rcases List.mem_cons.mp hz with rfl | hz
      · exact hc1
      · exact h2 z hz
theorem lc_lower {f b : Nat} (T : TakeF f b) {menu : Str} {N : Int} (hN : N = menu.length) (hN0 : 0 < N) (hl : menu.length ≤ 16777) (hc : ∀ c ∈ menu.cps.toList, c < 65536) (x1 : Sl) : ∀ (l : List Dv) {S : Sto}, BagAt S b →
    ∃ cs S', lcR (gN 2) tTrue (eBin ixD (eC (.str menu)) (eCall (calls f .l_take) (aCons (eVar 0) (aCons (eC (.int N)) aNil)))) [.va (.hdl b), x1, .no] l S = .ok (chrs cs) S' ∧ BagAt S' b ∧ cs.length = l.length ∧ ∀ c ∈ cs, c < 65536
  | [], S, B => ⟨[], S, rfl, B, rfl, by simp⟩
  | d :: l, S, B => by
    obtain ⟨r, o, e, r0, r1, ho⟩ := T S B N hN0 (by omega)
    obtain ⟨c, hc1, hc2⟩ := chr_at (menu := menu) (by omega) hc r0 (by omega)
    obtain ⟨cs, S', e2, B2, h1, h2⟩ := lc_lower T hN hN0 hl hc x1 l (B.set ho)
    refine ⟨c :: cs, S', ?_, B2, by simp [h1], fun z hz => ?_⟩
    · exact lcR_t (y := .str ⟨#[c]⟩) (S1 := S) (S2 := S.set b o) rfl rfl (by simp [e, hc2]) e2
    · rcases List.mem_cons.mp hz with rfl | hz
      · exact hc1
      · exact h2 z hz
theorem join_chr : ∀ cs : List Nat, (Str.join "" (cs.map fun c => (⟨#[c]⟩ : Str))).cps.toList = cs
  | [] => rfl
  | [c] => rfl
  | c :: d :: r => by
    show ((⟨#[c]⟩ : Str) ++ "" ++ Str.join "" ((d :: r).map fun c => (⟨#[c]⟩ : Str))).cps.toList = _
    rw [app_cps, app_cps, join_chr (d :: r)]
    rfl
theorem strs_chr : ∀ cs : List Nat, strsOf (chrs cs) = some (cs.map fun c => (⟨#[c]⟩ : Str))
  | [] => rfl
  | c :: cs => by
    show (strsOf (chrs cs)).map (fun l => (⟨#[c]⟩ : Str) :: l) = _
    rw [strs_chr cs]; rfl
theorem sum_chr : ∀ cs : List Nat, ((cs.map fun c => (⟨#[c]⟩ : Str)).map (·.length)).sum = cs.length
  | [] => rfl
  | c :: cs => by
    rw [List.map_cons, List.map_cons, List.sum_cons, sum_chr cs, List.length_cons]
    show 1 + _ = _
    omega
theorem join_ok (cs : List Nat) (h : cs.length ≤ 6000) (hc : ∀ c ∈ cs, c < 65536) : ∃ x, StrOk x ∧ ∀ S, joinD S "" [.lst (chrs cs)] = some (.str x, S) := by
  refine ⟨Txt.join "" (cs.map fun c => (⟨#[c]⟩ : Str)), ?_, fun S => ?_⟩
  · rw [show Txt.join "" (cs.map fun c => (⟨#[c]⟩ : Str)) = Str.join "" (cs.map fun c => (⟨#[c]⟩ : Str)) from PySem.StrLaws.glued_eq_join _ _]
    have e := join_chr cs
    refine ⟨?_, fun c h => hc c (by rw [e] at h; exact h)⟩
    have : (Str.join "" (cs.map fun c => (⟨#[c]⟩ : Str))).length = (Str.join "" (cs.map fun c => (⟨#[c]⟩ : Str))).cps.toList.length := by simp [Str.length]
    rw [this, e]; exact h
  · show ((asQ S (.lst (chrs cs))).bind fun l => (strsOf l).bind fun ys => if (ys.map (·.length)).sum + ys.length * ("" : Str).length ≤ 16777216 then some (Dv.str (Txt.join "" ys), S) else none) = _
    have e0 : asQ S (.lst (chrs cs)) = some (chrs cs) := rfl
    have l0 : ("" : Str).length = 0 := rfl
    rw [e0, Option.bind_some, strs_chr, Option.bind_some, sum_chr, l0, if_pos (by omega)]
theorem menuS : ("abcdehilnostwz0159ABZ_' h" : Str).length = 25 ∧ sOkB "abcdehilnostwz0159ABZ_' h" = true := by decide +kernel
theorem menuL : ("abcdefghijklmnopqrstuvwxyz" : Str).length = 26 ∧ sOkB "abcdefghijklmnopqrstuvwxyz" = true := by decide +kernel
theorem string_ok {f b : Nat} (T : TakeF f b) {S : Sto} (hB : BagAt S b) : ∃ d S', calls (f + 1) .l_string S [.hdl b] = .ok d S' ∧ BagAt S' b ∧ ThOk d := by
  obtain ⟨r, o1, e1, r0, r1, ho1⟩ := T S hB 10 (by decide) (by decide)
  have ms := sOk_of menuS.2
  obtain ⟨cs, S', e2, B2, h1, h2⟩ := lc_string T (menu := "abcdehilnostwz0159ABZ_' h") (N := 25) (by rw [menuS.1]; rfl) (by decide) (by rw [menuS.1]; decide) ms.2 (.va (.int r)) (rngD 0 r.toNat) (hB.set ho1)
  have hr := rngR1_ok (S.set b o1) r (by omega)
  have hlen : cs.length ≤ 10 := by rw [h1, rngD_len]; omega
  obtain ⟨x, hx, ej⟩ := join_ok cs (by omega) h2
  have ke := kLcEnd' S' (chrs cs) (by simp [chrs]; omega)
  refine ⟨.str x, S', ?_, B2, .inl ⟨x, rfl, hx⟩⟩
  generalize chrs cs = q at *
  generalize rngD 0 r.toNat = q2 at *
  simp [ev_l_string, fb_l_string, e1, hr, e2, ke, eStrM, kStrM, ej]
theorem lower_ok {f b : Nat} (T : TakeF f b) {S : Sto} (hB : BagAt S b) : ∃ d S', calls (f + 1) .l_lower S [.hdl b] = .ok d S' ∧ BagAt S' b ∧ ThOk d := by
  obtain ⟨r, o1, e1, r0, r1, ho1⟩ := T S hB 9 (by decide) (by decide)
  have ms := sOk_of menuL.2
  obtain ⟨cs, S', e2, B2, h1, h2⟩ := lc_lower T (menu := "abcdefghijklmnopqrstuvwxyz") (N := 26) (by rw [menuL.1]; rfl) (by decide) (by rw [menuL.1]; decide) ms.2 (.va (.int (1 + r))) (rngD 0 (1 + r).toNat) (hB.set ho1)
  have hr := rngR1_ok (S.set b o1) (1 + r) (by omega)
  have hlen : cs.length ≤ 10 := by rw [h1, rngD_len]; omega
  obtain ⟨x, hx, ej⟩ := join_ok cs (by omega) h2
  have ke := kLcEnd' S' (chrs cs) (by simp [chrs]; omega)
  refine ⟨.str x, S', ?_, B2, .inl ⟨x, rfl, hx⟩⟩
  generalize chrs cs = q at *
  generalize rngD 0 (1 + r).toNat = q2 at *
  simp [ev_l_lower, fb_l_lower, e1, hr, e2, ke, eStrM, kStrM, ej]
end DL
namespace DL
open PySem L2
theorem foldl_mem : ∀ (l : List (Array Nat)) (a : Array Nat) (c : Nat), c ∈ (l.foldl (· ++ ·) a).toList → c ∈ a.toList ∨ ∃ x ∈ l, c ∈ x.toList
  | [], a, c, h => .inl h
  | x :: l, a, c, h => by
    rw [List.foldl_cons] at h
    rcases foldl_mem l _ c h with h | ⟨y, hy, h⟩
    · rw [Array.toList_append] at h
      rcases List.mem_append.mp h with h | h
      · exact .inl h
      · exact .inr ⟨x, List.mem_cons_self, h⟩
    · exact .inr ⟨y, List.mem_cons_of_mem _ hy, h⟩
theorem mul_mem (x : Str) (n : Int) (c : Nat) (h : c ∈ (Txt.mul x n).cps.toList) : c ∈ x.cps.toList := by
  unfold Txt.mul at h
  split at h
  · simp [Str.empty] at h
  · split at h
    · exact h
    · rcases foldl_mem _ _ c h with h | ⟨y, hy, h⟩
      · simp at h
      · rw [(List.mem_replicate.mp hy).2] at h; exact h
theorem StrOk.mul {x : Str} {n : Int} (h : StrOk x) (h1 : 1 ≤ n) (h2 : x.length * n.toNat ≤ 6000) : StrOk (Txt.mul x n) := ⟨by rw [mul_len x n h1]; exact h2, fun c hc => h.2 c (mul_mem x n c hc)⟩
def oddA : List Dv := [.non, .bl true, .int 0, .int 7, .tup [.str "a"], .lst [.str "a"], .dic [(.inr "a", .int 0)], .tup [], .str "", .lst [.str "h", .str "1"], .tup [.str "name", .str "a"]]
def nines : Str := "h" ++ Txt.mul "9" 5000
def h1s : Str := Txt.mul "h1" 900
def oddB : List Dv := [.str "h+1", .str "h-1", .str "h1\n", .str "a\n", .str "+", .str "h 1", .str "h1 ", .str nines, .str h1s]
theorem nines_ok : StrOk nines := by
  have h9 : StrOk "9" := sOk_of (by decide +kernel)
  have hm : StrOk (Txt.mul "9" 5000) := h9.mul (by decide) (by decide +kernel)
  exact StrOk.app (sOk_of (by decide +kernel)) hm (by rw [mul_len _ _ (by decide)]; decide +kernel)
theorem h1s_ok : StrOk h1s := StrOk.mul (sOk_of (by decide +kernel)) (by decide) (by decide +kernel)
theorem odd_th : ∀ d ∈ oddA ++ oddB, ThOk d := by
  intro d hd
  unfold oddA oddB at hd
  simp only [List.cons_append, List.nil_append, List.mem_cons, List.not_mem_nil, or_false] at hd
  have s : ∀ x : Str, sOkB x = true → ThOk (.str x) := fun x h => .inl ⟨x, rfl, sOk_of h⟩
  rcases hd with rfl | rfl | rfl | rfl | rfl | rfl | rfl | rfl | rfl | rfl | rfl | rfl | rfl | rfl | rfl | rfl | rfl | rfl | rfl | rfl
  · exact .inr (by simp [oddL])
  · exact .inr (by simp [oddL])
  · exact .inr (by simp [oddL])
  · exact .inr (by simp [oddL])
  · exact .inr (by simp [oddL])
  · exact .inr (by simp [oddL])
  · exact .inr (by simp [oddL])
  · exact .inr (by simp [oddL])
  · exact s _ (by decide +kernel)
  · exact .inr (by simp [oddL])
  · exact .inr (by simp [oddL])
  · exact s _ (by decide +kernel)
  · exact s _ (by decide +kernel)
  · exact s _ (by decide +kernel)
  · exact s _ (by decide +kernel)
  · exact s _ (by decide +kernel)
  · exact s _ (by decide +kernel)
  · exact s _ (by decide +kernel)
  · exact .inl ⟨_, rfl, nines_ok⟩
  · exact .inl ⟨_, rfl, h1s_ok⟩
theorem mulSD_ok (S : Sto) (a : Str) (n : Int) (h : 1 ≤ n ∧ n ≤ 100000 ∧ a.length ≤ 100) : mulSD S (.str a) (.int n) = some (.str (Txt.mul a n), S) := by
  simp only [mulSD]
  exact if_pos h
theorem thing_ok {f b : Nat} (T0 : TakeF f b) (T1 : TakeF (f + 1) b) (T2 : TakeF (f + 2) b) {S : Sto} (hB : BagAt S b) : ∃ d S', calls (f + 3) .l_thing S [.hdl b] = .ok d S' ∧ BagAt S' b ∧ ThOk d := by
  obtain ⟨r, o1, e1, r0, r1, ho1⟩ := T2 S hB 6 (by decide) (by decide)
  have B1 := hB.set ho1
  by_cases h0 : r = 0
  · subst h0
    obtain ⟨d, o2, e2, hd, ho2⟩ := one_ok T1 B1 (l := oddA ++ oddB) (by simp [oddA]) (by show 20 < 1000000; decide)
    refine ⟨d, (S.set b o1).set b o2, ?_, B1.set ho2, odd_th d hd⟩
    have sz := sizeLine_eq
    have k1 : ∀ S, kLst [.non, .bl true, .int 0, .int 7, .tup [.str "a"], .lst [.str "a"], .dic [(.inr "a", .int 0)], .tup [], .str "", .lst [.str "h", .str "1"], .tup [.str "name", .str "a"]] S = .ok oddA S := fun S => kl_ok oddA S (by show 11 ≤ 100; decide)
    have k2 : ∀ S, kLst [.str "h+1", .str "h-1", .str "h1\n", .str "a\n", .str "+", .str "h 1", .str "h1 ", .str nines, .str h1s] S = .ok oddB S := fun S => kl_ok oddB S (by show 9 ≤ 100; decide)
    have m1 : ∀ S, mulSD S (.str "9") (.int 5000) = some (.str (Txt.mul "9" 5000), S) := fun S => mulSD_ok S _ _ (by decide +kernel)
    have m2 : ∀ S, mulSD S (.str "h1") (.int 900) = some (.str h1s, S) := fun S => mulSD_ok S _ _ (by decide +kernel)
    have m3 : ∀ S, addD S (.str "h") (.str (Txt.mul "9" 5000)) = some (.str nines, S) := fun S => op_add_s S _ _ (by rw [mul_len _ _ (by decide), sz]; decide +kernel)
    have a1 : ∀ S, addD S (.lst oddA) (.lst oddB) = some (.lst (oddA ++ oddB), S) := fun S => op_add_l S oddA oddB (by rw [sz]; show 20 ≤ 16777216; decide)
    generalize oddA ++ oddB = l at *
    generalize oddA = lA at *
    generalize oddB = lB at *
    generalize nines = x9 at *
    generalize h1s = xh at *
    generalize Txt.mul "9" 5000 = xm at *
    have kd : ∀ S, kDisp [(Dv.str "a", Dv.int 0)] S = .ok [(.inr "a", .int 0)] S := fun S => by kernel_rfl
    simp -implicitDefEqProofs [ev_l_thing, fb_l_thing, e1, kd, k1, k2, m1, m2, m3, a1, e2]
  · by_cases h1 : r = 1
    · subst h1
      obtain ⟨d, S', e2, B2, hd⟩ := kept_ok T0 T1 B1
      exact ⟨d, S', by simp -implicitDefEqProofs [ev_l_thing, fb_l_thing, e1, e2], B2, hd⟩
    · by_cases h2 : r = 2
      · subst h2
        obtain ⟨d, S', e2, B2, hd⟩ := near_ok T1 B1
        exact ⟨d, S', by simp -implicitDefEqProofs [ev_l_thing, fb_l_thing, e1, e2], B2, hd⟩
      · by_cases h3 : r = 3
        · subst h3
          obtain ⟨d, S', e2, B2, hd⟩ := lower_ok T1 B1
          exact ⟨d, S', by simp -implicitDefEqProofs [ev_l_thing, fb_l_thing, e1, e2], B2, hd⟩
        · obtain ⟨d, S', e2, B2, hd⟩ := string_ok T1 B1
          exact ⟨d, S', by simp -implicitDefEqProofs [ev_l_thing, fb_l_thing, e1, e2, h0, h1, h2, h3], B2, hd⟩
theorem lc_bools (a b c d : Bool) (e : Env) (he : e.length = 8) (S : Sto) : lcR (gN 7) (tNot' (tTru (eCB (isaD bl_os bl_xs) (aCons (eVar 7) (aCons (eC (.ty "bool")) aNil))))) (eVar 7) e [.bl a, .bl b, .bl c, .bl d] S = .ok [] S := by
  match e, he with
  | [s0, s1, s2, s3, s4, s5, s6, s7], _ => simp [lcR]
theorem eq_bools (a b c d : Bool) (S : Sto) : eqD S (.lst [.bl a, .bl b, .bl c, .bl d]) (.lst [.bl a, .bl b, .bl c, .bl d]) = some true := by
  cases a <;> cases b <;> cases c <;> cases d <;> kernel_rfl
/-- one thing -/
theorem turn_ok {F b : Nat} (hF : 10 ≤ F) {S : Sto} (hB : BagAt S b) (x0 x2 x3 x4 x5 x6 x7 : Sl) : ∃ y3 y4 y5 y6 S', fb_law_l0 (calls F) [x0, .va (.hdl b), x2, x3, x4, x5, x6, x7] S = .nx [x0, .va (.hdl b), x2, y3, y4, y5, y6, x7] S' ∧ BagAt S' b := by
  obtain ⟨f, rfl⟩ : ∃ f, F = f + 4 := ⟨F - 4, by omega⟩
  obtain ⟨d, S', e1, B1, hd⟩ := thing_ok (f := f + 1) (takeF f b) (takeF (f + 1) b) (takeF (f + 2) b) hB
  obtain ⟨s, hs⟩ := th_repr hd
  obtain ⟨e2, hp⟩ := th_ans hd (f + 2) S'
  have q1 := own_d (f + 2) d S' hp
  have q2 := helper_d (f + 2) d S' hp
  have q3 := word_d (f + 2) d S' hp
  have q4 := sign_d (f + 1) d S' hp
  have hl := fun a b c d => lc_bools a b c d
  unfold ansD at e2
  generalize onS ownN d = a1 at *
  generalize onS hlpN d = a2 at *
  generalize onS wrdN d = a3 at *
  generalize onS sgnN d = a4 at *
  refine ⟨.va d, .va (.lst [.bl a1, .bl a2, .bl a3, .bl a4]), .va (.str s), .va (.lst [.bl a1, .bl a2, .bl a3, .bl a4]), S', ?_, B1⟩
  have ke := kLcEnd' S' [] (by decide)
  simp -implicitDefEqProofs [fb_law_l0, e1, e2, hs, q1, q2, q3, q4, hl, eq_bools, ke, eq_lst_nil]
end DL
namespace DL
open PySem L2
theorem turns {F b : Nat} (hF : 10 ≤ F) (x0 : Sl) : ∀ (l : List Dv) {S : Sto} (x2 x3 x4 x5 x6 x7 : Sl), BagAt S b → ∃ y2 y3 y4 y5 y6 S', forR (gN 2) (fb_law_l0 (calls F)) l [x0, .va (.hdl b), x2, x3, x4, x5, x6, x7] S = .nx [x0, .va (.hdl b), y2, y3, y4, y5, y6, x7] S'
  | [], S, x2, x3, x4, x5, x6, x7, h => ⟨_, _, _, _, _, S, rfl⟩
  | d :: l, S, x2, x3, x4, x5, x6, x7, h => by
    obtain ⟨y3, y4, y5, y6, S', e, h'⟩ := turn_ok hF h x0 (.va d) x3 x4 x5 x6 x7
    obtain ⟨z2, z3, z4, z5, z6, S2, e2⟩ := turns hF x0 l (.va d) y3 y4 y5 y6 x7 h'
    exact ⟨z2, z3, z4, z5, z6, S2, by rw [← e2]; exact forR_nx rfl e⟩
def pg0 : Dv := .obj "Program" [("held", .tup [])]
theorem isa_p (S : Sto) : isaD bl_os bl_xs S [pg0, .ty "str"] = some (.bl false, S) := by kernel_rfl
theorem isa_u (S : Sto) : isaD bl_os bl_xs S [.ext 1 "Unset" ["name"] [.str "h1"], .ty "str"] = some (.bl false, S) := by kernel_rfl
theorem isa_l (S : Sto) : isaD bl_os bl_xs S [.lst [pg0], .ty "str"] = some (.bl false, S) := by simp
theorem all_no {F : Nat} (hF : 5 ≤ F) (d : Dv) (h : ∀ S, isaD bl_os bl_xs S [d, .ty "str"] = some (.bl false, S)) (S : Sto) :
    calls F .is_own_name S [d] = .ok (.bl false) S ∧ calls F .is_helper S [d] = .ok (.bl false) S ∧ calls F .is_word S [d] = .ok (.bl false) S ∧ calls F .is_sign S [d] = .ok (.bl false) S := by
  obtain ⟨f, rfl⟩ : ∃ f, F = f + 4 := ⟨F - 4, by omega⟩
  have m : ∀ n t, calls (n + 1) .is_made_of S [d, t] = .ok (.bl false) S := fun n t => by
    simp -implicitDefEqProofs [ev_is_made_of, fb_is_made_of, h, -isaD_eq]
  have o : ∀ n, calls (n + 2) .is_own_name S [d] = .ok (.bl false) S := fun n => by simp -implicitDefEqProofs [ev_is_own_name, fb_is_own_name, m]
  refine ⟨o (f + 2), ?_, ?_, ?_⟩
  · simp -implicitDefEqProofs [ev_is_helper, fb_is_helper, h, -isaD_eq]
  · simp -implicitDefEqProofs [ev_is_word, fb_is_word, ld', m]
  · have := o (f + 1)
    simp -implicitDefEqProofs [ev_is_sign, fb_is_sign, this]
theorem rep4 (S : Sto) : repD S (.lst [.bl false]) (.int 4) = some (.lst [.bl false, .bl false, .bl false, .bl false], S) := by kernel_rfl
theorem l1_ok {F : Nat} (hF : 5 ≤ F) (d : Dv) (h : ∀ S, isaD bl_os bl_xs S [d, .ty "str"] = some (.bl false, S)) (S : Sto) (x0 x1 x2 x4 x5 x6 x7 : Sl) :
    fb_law_l1 (calls F) [x0, x1, x2, .va d, x4, x5, x6, x7] S = .nx [x0, x1, x2, .va d, x4, x5, x6, x7] S := by
  obtain ⟨q1, q2, q3, q4⟩ := all_no hF d h S
  simp -implicitDefEqProofs [fb_law_l1, q1, q2, q3, q4, rep4, eq_bools]
def hN (k : Nat) : Str := "h" ++ Str.ofString (toString (k : Int))
theorem hN_ok : ∀ k : Nat, k < 100 → 1 ≤ k → (decide ((Str.ofString (toString (k : Int))).length ≤ 20) && hlpN (hN k) && !ownN (hN k)) = true := by decide +kernel
theorem l2_ok {F : Nat} (hF : 5 ≤ F) (k : Nat) (h1 : 1 ≤ k) (h2 : k < 100) (S : Sto) (x0 x1 x2 x3 x4 x5 x6 : Sl) :
    fb_law_l2 (calls F) [x0, x1, x2, x3, x4, x5, x6, .va (.int (k : Int))] S = .nx [x0, x1, x2, x3, x4, x5, x6, .va (.int (k : Int))] S := by
  obtain ⟨f, rfl⟩ : ∃ f, F = f + 4 := ⟨F - 4, by omega⟩
  have h := hN_ok k h2 h1
  simp only [Bool.and_eq_true, decide_eq_true_eq, Bool.not_eq_true'] at h
  obtain ⟨⟨h3, h4⟩, h5⟩ := h
  have sz := sizeLine_eq
  have l1 : ("h" : Str).length = 1 := by decide +kernel
  have st : ∀ S, strD S [.int (k : Int)] = some (.str (Str.ofString (toString (k : Int))), S) := fun S => if_pos (by
    have : (k : Int).natAbs = k := rfl
    rw [this]
    exact Nat.lt_of_le_of_lt (Nat.log2_le_self k) (by omega))
  have ad : ∀ S, addD S (.str "h") (.str (Str.ofString (toString (k : Int)))) = some (.str (hN k), S) := fun S => op_add_s S _ _ (by omega)
  have hl : (hN k).length ≤ 16777216 := by
    unfold hN
    rw [app_len]
    omega
  have q1 := own_d (f + 2) (.str (hN k)) S hl
  have q2 := helper_d (f + 2) (.str (hN k)) S hl
  have q1 : calls (f + 2 + 2) .is_own_name S [.str (hN k)] = .ok (.bl false) S := by rw [q1]; simp only [onS, h5]
  have q2 : calls (f + 2 + 2) .is_helper S [.str (hN k)] = .ok (.bl true) S := by rw [q2]; simp only [onS, h4]
  clear h4 h5 hl h3
  generalize hN k = z at *
  generalize Str.ofString (toString (k : Int)) = y at *
  simp -implicitDefEqProofs [fb_law_l2, st, ad, q1, q2]
theorem l2_loop {F : Nat} (hF : 5 ≤ F) (S : Sto) (x0 x1 x2 x3 x4 x5 x6 : Sl) : ∀ (l : List Dv) (x7 : Sl), (∀ d ∈ l, ∃ k : Nat, 1 ≤ k ∧ k < 100 ∧ d = .int (k : Int)) → ∃ y7, forR (gN 7) (fb_law_l2 (calls F)) l [x0, x1, x2, x3, x4, x5, x6, x7] S = .nx [x0, x1, x2, x3, x4, x5, x6, y7] S
  | [], x7, _ => ⟨x7, rfl⟩
  | d :: l, x7, h => by
    obtain ⟨k, h1, h2, rfl⟩ := h d List.mem_cons_self
    obtain ⟨y7, e⟩ := l2_loop hF S x0 x1 x2 x3 x4 x5 x6 l (.va (.int (k : Int))) fun d hd => h d (List.mem_cons_of_mem _ hd)
    exact ⟨y7, by rw [← e]; exact forR_nx rfl (l2_ok hF k h1 h2 S x0 x1 x2 x3 x4 x5 x6)⟩
theorem rng_mem : ∀ d ∈ rngD 1 99, ∃ k : Nat, 1 ≤ k ∧ k < 100 ∧ d = .int (k : Int) := by
  have h : (rngD 1 99) = ((List.range 99).map fun k => Dv.int ((k + 1 : Nat) : Int)) := by kernel_rfl
  rw [h]
  intro d hd
  obtain ⟨k, hk, rfl⟩ := List.mem_map.mp hd
  exact ⟨k + 1, by omega, by have := List.mem_range.mp hk; omega, rfl⟩
theorem pg0_ok (S : Sto) : kMkB "Program" dl_Program_1 (calls 20 .Program_init) [.lst []] S = .ok pg0 S := by kernel_rfl
theorem law_true (ns : List Int) (h : ns.length ≤ 63) : ∃ S, calls (20 + 1) .law [] [.rol (ns.map .int)] = .ok (.bl true) S := by
  obtain ⟨o, e, ho⟩ := bag_ok 19 [] ns h
  obtain ⟨z2, z3, z4, z5, z6, S', e2⟩ := turns (F := 20) (by decide) (.va (.rol (ns.map .int))) (rngD 0 40) .no .no .no .no .no .no (bag_at ho)
  obtain ⟨y7, e5⟩ := l2_loop (F := 20) (by decide) S' (.va (.rol (ns.map .int))) (.va (.hdl 0)) z2 (.va (.lst [pg0])) z4 z5 z6 (rngD 1 99) .no rng_mem
  refine ⟨S', ?_⟩
  rw [ev_law]
  have e' : calls 20 .l_bag [] [.rol (ns.map .int)] = .ok (.hdl 0) [o] := e
  have hr := rngR1_ok [o] 40 (by omega)
  have hr2 := rngR2_ok (S := S') 1 100 (by decide)
  have h6 : (40 : Int).toNat = 40 := rfl
  have h7 : ((100 : Int) - 1).toNat = 99 := rfl
  rw [h6] at hr
  rw [h7] at hr2
  have p0 := pg0_ok S'
  have u0 : kExc (calls 20 .Unset_init) "Unset" ["name"] [.str "h1"] S' = .ok (.ext 1 "Unset" ["name"] [.str "h1"]) S' := by kernel_rfl
  have e3 : forR (gN 3) (fb_law_l1 (calls 20)) [pg0, .ext 1 "Unset" ["name"] [.str "h1"], .lst [pg0]] [.va (.rol (ns.map .int)), .va (.hdl 0), z2, z3, z4, z5, z6, .no] S' = .nx [.va (.rol (ns.map .int)), .va (.hdl 0), z2, .va (.lst [pg0]), z4, z5, z6, .no] S' := by
    rw [forR_nx rfl (l1_ok (by decide) pg0 isa_p S' _ _ _ _ _ _ _), forR_nx rfl (l1_ok (by decide) _ isa_u S' _ _ _ _ _ _ _), forR_nx rfl (l1_ok (by decide) _ isa_l S' _ _ _ _ _ _ _)]
    rfl
  generalize rngD 0 40 = q at *
  generalize rngD 1 99 = q9 at *
  generalize ns.map Dv.int = qn at *
  generalize pg0 = p at *
  simp -implicitDefEqProofs [fb_law, e', hr, e2, p0, u0, eExc, e3, hr2, e5]
end DL
namespace Row
open PySem L2 DL
structure Tx (K : PySem.W.Frag) (w : World) (mg : Str → Option Value) : Prop where
  f_abs : mg "abs" = none
  f_bool : mg "bool" = none
  f_dict : mg "dict" = none
  f_enumerate : mg "enumerate" = none
  f_int : mg "int" = none
  f_isinstance : mg "isinstance" = none
  f_len : mg "len" = none
  f_list : mg "list" = none
  f_range : mg "range" = none
  f_repr : mg "repr" = none
  f_sorted : mg "sorted" = none
  f_str : mg "str" = none
  f_tuple : mg "tuple" = none
  c_DIGITS : GlobC K mg "DIGITS" c_DIGITS
  c_LETTERS : GlobC K mg "LETTERS" c_LETTERS
  c_RESERVED : GlobC K mg "RESERVED" c_RESERVED
  g_l_bag : mg "_law_bag" = some (.ref (He.ga K "_law_bag"))
  g_as_tuples : mg "as_tuples" = some (.ref (He.ga K "as_tuples"))
  g_values_in : mg "values_in" = some (.ref (He.ga K "values_in"))
  g_places_in : mg "places_in" = some (.ref (He.ga K "places_in"))
  g_parts_of : mg "parts_of" = some (.ref (He.ga K "parts_of"))
  g_all_names : mg "all_names" = some (.ref (He.ga K "all_names"))
  g_read_in : mg "read_in" = some (.ref (He.ga K "read_in"))
  g_is_made_of : mg "is_made_of" = some (.ref (He.ga K "is_made_of"))
  g_is_helper : mg "is_helper" = some (.ref (He.ga K "is_helper"))
  g_unset_in : mg "unset_in" = some (.ref (He.ga K "unset_in"))
  g_has_form : mg "has_form" = some (.ref (He.ga K "has_form"))
  g_is_list_of : mg "is_list_of" = some (.ref (He.ga K "is_list_of"))
  g_is_own_name : mg "is_own_name" = some (.ref (He.ga K "is_own_name"))
  g_is_name : mg "is_name" = some (.ref (He.ga K "is_name"))
  g_is_word : mg "is_word" = some (.ref (He.ga K "is_word"))
  g_is_sign : mg "is_sign" = some (.ref (He.ga K "is_sign"))
  g_is_expression : mg "is_expression" = some (.ref (He.ga K "is_expression"))
  g_is_place : mg "is_place" = some (.ref (He.ga K "is_place"))
  g_is_many : mg "is_many" = some (.ref (He.ga K "is_many"))
  g_is_simple_row : mg "is_simple_row" = some (.ref (He.ga K "is_simple_row"))
  g_is_any : mg "is_any" = some (.ref (He.ga K "is_any"))
  g_is_operand : mg "is_operand" = some (.ref (He.ga K "is_operand"))
  g_blocks_of : mg "blocks_of" = some (.ref (He.ga K "blocks_of"))
  g_fault_in : mg "fault_in" = some (.ref (He.ga K "fault_in"))
  g_first_fault : mg "first_fault" = some (.ref (He.ga K "first_fault"))
  g_helper_number : mg "helper_number" = some (.ref (He.ga K "helper_number"))
  g_l_take : mg "_law_take" = some (.ref (He.ga K "_law_take"))
  g_l_one : mg "_law_one" = some (.ref (He.ga K "_law_one"))
  g_l_kept : mg "_law_kept" = some (.ref (He.ga K "_law_kept"))
  g_l_near : mg "_law_near" = some (.ref (He.ga K "_law_near"))
  g_l_lower : mg "_law_lower" = some (.ref (He.ga K "_law_lower"))
  g_l_string : mg "_law_string" = some (.ref (He.ga K "_law_string"))
  g_l_thing : mg "_law_thing" = some (.ref (He.ga K "_law_thing"))
  g_l_all_in : mg "_law_all_in" = some (.ref (He.ga K "_law_all_in"))
  g_l_due : mg "_law_due" = some (.ref (He.ga K "_law_due"))
  g_law : mg "law" = some (.ref (He.ga K "law"))
  g_BadRow : mg "BadRow" = some (.ref (He.ga K "BadRow"))
  g_FoundError : mg "FoundError" = some (.ref (He.ga K "FoundError"))
  g_Program : mg "Program" = some (.ref (He.ga K "Program"))
  g_Unset : mg "Unset" = some (.ref (He.ga K "Unset"))
  k_Program : Cls K (He.ga K "Program")
  mk_Program : Mk K (He.ga K "Program") (He.ma K (He.ga K "Program") "__init__")
  na_Program_held : NoAttr K (He.ga K "Program") "held"
  fe_FoundError : FeF K (He.ga K "FoundError")
  xc_BadRow : XcF K (He.ga K "BadRow") (He.ma K (He.ga K "BadRow") "__init__") ["path"]
  xc_Unset : XcF K (He.ga K "Unset") (He.ma K (He.ga K "Unset") "__init__") ["name"]
  xt : XcT K xtab
  bl : BlF K bl_os bl_xs
  d_l_bag : ∃ fd, FunD K "_law_bag" "_law_bag" (defArgs st_l_bag) (defBody st_l_bag) (defScope st_l_bag) [] [] (He.ga K "_law_bag") fd
  d_BadRow_init : ∃ fd, FunD K "__init__" "BadRow.__init__" (defArgs st_BadRow_init) (defBody st_BadRow_init) (defScope st_BadRow_init) [] [] (He.ma K (He.ga K "BadRow") "__init__") fd
  d_Unset_init : ∃ fd, FunD K "__init__" "Unset.__init__" (defArgs st_Unset_init) (defBody st_Unset_init) (defScope st_Unset_init) [] [] (He.ma K (He.ga K "Unset") "__init__") fd
  d_as_tuples : ∃ fd, FunD K "as_tuples" "as_tuples" (defArgs st_as_tuples) (defBody st_as_tuples) (defScope st_as_tuples) [] [] (He.ga K "as_tuples") fd
  d_values_in : ∃ fd, FunD K "values_in" "values_in" (defArgs st_values_in) (defBody st_values_in) (defScope st_values_in) [] [] (He.ga K "values_in") fd
  d_places_in : ∃ fd, FunD K "places_in" "places_in" (defArgs st_places_in) (defBody st_places_in) (defScope st_places_in) [] [] (He.ga K "places_in") fd
  d_parts_of : ∃ fd, FunD K "parts_of" "parts_of" (defArgs st_parts_of) (defBody st_parts_of) (defScope st_parts_of) [] [] (He.ga K "parts_of") fd
  d_all_names : ∃ fd, FunD K "all_names" "all_names" (defArgs st_all_names) (defBody st_all_names) (defScope st_all_names) [] [] (He.ga K "all_names") fd
  d_read_in : ∃ fd, FunD K "read_in" "read_in" (defArgs st_read_in) (defBody st_read_in) (defScope st_read_in) [] [] (He.ga K "read_in") fd
  d_is_made_of : ∃ fd, FunD K "is_made_of" "is_made_of" (defArgs st_is_made_of) (defBody st_is_made_of) (defScope st_is_made_of) [] [] (He.ga K "is_made_of") fd
  d_is_helper : ∃ fd, FunD K "is_helper" "is_helper" (defArgs st_is_helper) (defBody st_is_helper) (defScope st_is_helper) [] [] (He.ga K "is_helper") fd
  d_unset_in : ∃ fd, FunD K "unset_in" "unset_in" (defArgs st_unset_in) (defBody st_unset_in) (defScope st_unset_in) [] [] (He.ga K "unset_in") fd
  d_has_form : ∃ fd, FunD K "has_form" "has_form" (defArgs st_has_form) (defBody st_has_form) (defScope st_has_form) [] [] (He.ga K "has_form") fd
  d_is_list_of : ∃ fd, FunD K "is_list_of" "is_list_of" (defArgs st_is_list_of) (defBody st_is_list_of) (defScope st_is_list_of) [] [] (He.ga K "is_list_of") fd
  d_is_own_name : ∃ fd, FunD K "is_own_name" "is_own_name" (defArgs st_is_own_name) (defBody st_is_own_name) (defScope st_is_own_name) [] [] (He.ga K "is_own_name") fd
  d_is_name : ∃ fd, FunD K "is_name" "is_name" (defArgs st_is_name) (defBody st_is_name) (defScope st_is_name) [] [] (He.ga K "is_name") fd
  d_is_word : ∃ fd, FunD K "is_word" "is_word" (defArgs st_is_word) (defBody st_is_word) (defScope st_is_word) [] [] (He.ga K "is_word") fd
  d_is_sign : ∃ fd, FunD K "is_sign" "is_sign" (defArgs st_is_sign) (defBody st_is_sign) (defScope st_is_sign) [] [] (He.ga K "is_sign") fd
  d_is_expression : ∃ fd, FunD K "is_expression" "is_expression" (defArgs st_is_expression) (defBody st_is_expression) (defScope st_is_expression) [] [] (He.ga K "is_expression") fd
  d_is_place : ∃ fd, FunD K "is_place" "is_place" (defArgs st_is_place) (defBody st_is_place) (defScope st_is_place) [] [] (He.ga K "is_place") fd
  d_is_many : ∃ fd, FunD K "is_many" "is_many" (defArgs st_is_many) (defBody st_is_many) (defScope st_is_many) [] [] (He.ga K "is_many") fd
  d_is_simple_row : ∃ fd, FunD K "is_simple_row" "is_simple_row" (defArgs st_is_simple_row) (defBody st_is_simple_row) (defScope st_is_simple_row) [] [] (He.ga K "is_simple_row") fd
  d_is_any : ∃ fd, FunD K "is_any" "is_any" (defArgs st_is_any) (defBody st_is_any) (defScope st_is_any) [] [] (He.ga K "is_any") fd
  d_is_operand : ∃ fd, FunD K "is_operand" "is_operand" (defArgs st_is_operand) (defBody st_is_operand) (defScope st_is_operand) [] [] (He.ga K "is_operand") fd
  d_blocks_of : ∃ fd, FunD K "blocks_of" "blocks_of" (defArgs st_blocks_of) (defBody st_blocks_of) (defScope st_blocks_of) [] [] (He.ga K "blocks_of") fd
  d_fault_in : ∃ fd, FunD K "fault_in" "fault_in" (defArgs st_fault_in) (defBody st_fault_in) (defScope st_fault_in) [] [] (He.ga K "fault_in") fd
  d_first_fault : ∃ fd, FunD K "first_fault" "first_fault" (defArgs st_first_fault) (defBody st_first_fault) (defScope st_first_fault) [] [] (He.ga K "first_fault") fd
  d_helper_number : ∃ fd, FunD K "helper_number" "helper_number" (defArgs st_helper_number) (defBody st_helper_number) (defScope st_helper_number) [] [] (He.ga K "helper_number") fd
  d_Program_init : ∃ fd, FunD K "__init__" "Program.__init__" (defArgs st_Program_init) (defBody st_Program_init) (defScope st_Program_init) [] [] (He.ma K (He.ga K "Program") "__init__") fd
  d_l_take : ∃ fd, FunD K "_law_take" "_law_take" (defArgs st_l_take) (defBody st_l_take) (defScope st_l_take) [] [] (He.ga K "_law_take") fd
  d_l_one : ∃ fd, FunD K "_law_one" "_law_one" (defArgs st_l_one) (defBody st_l_one) (defScope st_l_one) [] [] (He.ga K "_law_one") fd
  d_l_kept : ∃ fd, FunD K "_law_kept" "_law_kept" (defArgs st_l_kept) (defBody st_l_kept) (defScope st_l_kept) [] [] (He.ga K "_law_kept") fd
  d_l_near : ∃ fd, FunD K "_law_near" "_law_near" (defArgs st_l_near) (defBody st_l_near) (defScope st_l_near) [] [] (He.ga K "_law_near") fd
  d_l_lower : ∃ fd, FunD K "_law_lower" "_law_lower" (defArgs st_l_lower) (defBody st_l_lower) (defScope st_l_lower) [] [] (He.ga K "_law_lower") fd
  d_l_string : ∃ fd, FunD K "_law_string" "_law_string" (defArgs st_l_string) (defBody st_l_string) (defScope st_l_string) [] [] (He.ga K "_law_string") fd
  d_l_thing : ∃ fd, FunD K "_law_thing" "_law_thing" (defArgs st_l_thing) (defBody st_l_thing) (defScope st_l_thing) [] [] (He.ga K "_law_thing") fd
  d_l_all_in : ∃ fd, FunD K "_law_all_in" "_law_all_in" (defArgs st_l_all_in) (defBody st_l_all_in) (defScope st_l_all_in) [] [] (He.ga K "_law_all_in") fd
  d_l_due : ∃ fd, FunD K "_law_due" "_law_due" (defArgs st_l_due) (defBody st_l_due) (defScope st_l_due) [] [] (He.ga K "_law_due") fd
  d_law : ∃ fd, FunD K "law" "law" (defArgs st_law) (defBody st_law) (defScope st_law) [] [] (He.ga K "law") fd
def Fn.ok (P : Program) (w : World) (K : PySem.W.Frag) (mg : Str → Option Value) (base : Heap) (k : Nat) : Fn → DF → Prop
  | .l_bag, g => FD P w K mg base k "_law_bag" g
  | .BadRow_init, g => FX P w K mg base k "BadRow" ["path"] g
  | .Unset_init, g => FX P w K mg base k "Unset" ["name"] g
  | .as_tuples, g => FD P w K mg base k "as_tuples" g
  | .values_in, g => FD P w K mg base k "values_in" g
  | .places_in, g => FD P w K mg base k "places_in" g
  | .parts_of, g => FD P w K mg base k "parts_of" g
  | .all_names, g => FD P w K mg base k "all_names" g
  | .read_in, g => FD P w K mg base k "read_in" g
  | .is_made_of, g => FD P w K mg base k "is_made_of" g
  | .is_helper, g => FD P w K mg base k "is_helper" g
  | .unset_in, g => FD P w K mg base k "unset_in" g
  | .has_form, g => FD P w K mg base k "has_form" g
  | .is_list_of, g => FD P w K mg base k "is_list_of" g
  | .is_own_name, g => FD P w K mg base k "is_own_name" g
  | .is_name, g => FD P w K mg base k "is_name" g
  | .is_word, g => FD P w K mg base k "is_word" g
  | .is_sign, g => FD P w K mg base k "is_sign" g
  | .is_expression, g => FD P w K mg base k "is_expression" g
  | .is_place, g => FD P w K mg base k "is_place" g
  | .is_many, g => FD P w K mg base k "is_many" g
  | .is_simple_row, g => FD P w K mg base k "is_simple_row" g
  | .is_any, g => FD P w K mg base k "is_any" g
  | .is_operand, g => FD P w K mg base k "is_operand" g
  | .blocks_of, g => FD P w K mg base k "blocks_of" g
  | .fault_in, g => FD P w K mg base k "fault_in" g
  | .first_fault, g => FD P w K mg base k "first_fault" g
  | .helper_number, g => FD P w K mg base k "helper_number" g
  | .Program_init, g => FI P w K mg base k "Program" (InB "Program.__init__" st_Program_init ["self", "rows"] (fun K => []) (fun K => [])) g
  | .l_take, g => FD P w K mg base k "_law_take" g
  | .l_one, g => FD P w K mg base k "_law_one" g
  | .l_kept, g => FD P w K mg base k "_law_kept" g
  | .l_near, g => FD P w K mg base k "_law_near" g
  | .l_lower, g => FD P w K mg base k "_law_lower" g
  | .l_string, g => FD P w K mg base k "_law_string" g
  | .l_thing, g => FD P w K mg base k "_law_thing" g
  | .l_all_in, g => FD P w K mg base k "_law_all_in" g
  | .l_due, g => FD P w K mg base k "_law_due" g
  | .law, g => FD P w K mg base k "law" g
def OkC (P : Program) (w : World) (K : PySem.W.Frag) (mg : Str → Option Value) (base : Heap) (k : Nat) (c : Fn → DF) : Prop := ∀ f, Fn.ok P w K mg base k f (c f)
theorem okf_l_bag {P : Program} {w : World} {K : PySem.W.Frag} {mg : Str → Option Value} {base : Heap} {k : Nat} {c : Fn → DF} (ih : OkC P w K mg base k c) : FD P w K mg base k "_law_bag" (c .l_bag) := ih .l_bag
theorem okf_BadRow_init {P : Program} {w : World} {K : PySem.W.Frag} {mg : Str → Option Value} {base : Heap} {k : Nat} {c : Fn → DF} (ih : OkC P w K mg base k c) : FX P w K mg base k "BadRow" ["path"] (c .BadRow_init) := ih .BadRow_init
theorem okf_Unset_init {P : Program} {w : World} {K : PySem.W.Frag} {mg : Str → Option Value} {base : Heap} {k : Nat} {c : Fn → DF} (ih : OkC P w K mg base k c) : FX P w K mg base k "Unset" ["name"] (c .Unset_init) := ih .Unset_init
theorem okf_as_tuples {P : Program} {w : World} {K : PySem.W.Frag} {mg : Str → Option Value} {base : Heap} {k : Nat} {c : Fn → DF} (ih : OkC P w K mg base k c) : FD P w K mg base k "as_tuples" (c .as_tuples) := ih .as_tuples
theorem okf_values_in {P : Program} {w : World} {K : PySem.W.Frag} {mg : Str → Option Value} {base : Heap} {k : Nat} {c : Fn → DF} (ih : OkC P w K mg base k c) : FD P w K mg base k "values_in" (c .values_in) := ih .values_in
theorem okf_places_in {P : Program} {w : World} {K : PySem.W.Frag} {mg : Str → Option Value} {base : Heap} {k : Nat} {c : Fn → DF} (ih : OkC P w K mg base k c) : FD P w K mg base k "places_in" (c .places_in) := ih .places_in
theorem okf_parts_of {P : Program} {w : World} {K : PySem.W.Frag} {mg : Str → Option Value} {base : Heap} {k : Nat} {c : Fn → DF} (ih : OkC P w K mg base k c) : FD P w K mg base k "parts_of" (c .parts_of) := ih .parts_of
theorem okf_all_names {P : Program} {w : World} {K : PySem.W.Frag} {mg : Str → Option Value} {base : Heap} {k : Nat} {c : Fn → DF} (ih : OkC P w K mg base k c) : FD P w K mg base k "all_names" (c .all_names) := ih .all_names
theorem okf_read_in {P : Program} {w : World} {K : PySem.W.Frag} {mg : Str → Option Value} {base : Heap} {k : Nat} {c : Fn → DF} (ih : OkC P w K mg base k c) : FD P w K mg base k "read_in" (c .read_in) := ih .read_in
theorem okf_is_made_of {P : Program} {w : World} {K : PySem.W.Frag} {mg : Str → Option Value} {base : Heap} {k : Nat} {c : Fn → DF} (ih : OkC P w K mg base k c) : FD P w K mg base k "is_made_of" (c .is_made_of) := ih .is_made_of
theorem okf_is_helper {P : Program} {w : World} {K : PySem.W.Frag} {mg : Str → Option Value} {base : Heap} {k : Nat} {c : Fn → DF} (ih : OkC P w K mg base k c) : FD P w K mg base k "is_helper" (c .is_helper) := ih .is_helper
theorem okf_unset_in {P : Program} {w : World} {K : PySem.W.Frag} {mg : Str → Option Value} {base : Heap} {k : Nat} {c : Fn → DF} (ih : OkC P w K mg base k c) : FD P w K mg base k "unset_in" (c .unset_in) := ih .unset_in
theorem okf_has_form {P : Program} {w : World} {K : PySem.W.Frag} {mg : Str → Option Value} {base : Heap} {k : Nat} {c : Fn → DF} (ih : OkC P w K mg base k c) : FD P w K mg base k "has_form" (c .has_form) := ih .has_form
theorem okf_is_list_of {P : Program} {w : World} {K : PySem.W.Frag} {mg : Str → Option Value} {base : Heap} {k : Nat} {c : Fn → DF} (ih : OkC P w K mg base k c) : FD P w K mg base k "is_list_of" (c .is_list_of) := ih .is_list_of
theorem okf_is_own_name {P : Program} {w : World} {K : PySem.W.Frag} {mg : Str → Option Value} {base : Heap} {k : Nat} {c : Fn → DF} (ih : OkC P w K mg base k c) : FD P w K mg base k "is_own_name" (c .is_own_name) := ih .is_own_name
theorem okf_is_name {P : Program} {w : World} {K : PySem.W.Frag} {mg : Str → Option Value} {base : Heap} {k : Nat} {c : Fn → DF} (ih : OkC P w K mg base k c) : FD P w K mg base k "is_name" (c .is_name) := ih .is_name
theorem okf_is_word {P : Program} {w : World} {K : PySem.W.Frag} {mg : Str → Option Value} {base : Heap} {k : Nat} {c : Fn → DF} (ih : OkC P w K mg base k c) : FD P w K mg base k "is_word" (c .is_word) := ih .is_word
theorem okf_is_sign {P : Program} {w : World} {K : PySem.W.Frag} {mg : Str → Option Value} {base : Heap} {k : Nat} {c : Fn → DF} (ih : OkC P w K mg base k c) : FD P w K mg base k "is_sign" (c .is_sign) := ih .is_sign
theorem okf_is_expression {P : Program} {w : World} {K : PySem.W.Frag} {mg : Str → Option Value} {base : Heap} {k : Nat} {c : Fn → DF} (ih : OkC P w K mg base k c) : FD P w K mg base k "is_expression" (c .is_expression) := ih .is_expression
theorem okf_is_place {P : Program} {w : World} {K : PySem.W.Frag} {mg : Str → Option Value} {base : Heap} {k : Nat} {c : Fn → DF} (ih : OkC P w K mg base k c) : FD P w K mg base k "is_place" (c .is_place) := ih .is_place
theorem okf_is_many {P : Program} {w : World} {K : PySem.W.Frag} {mg : Str → Option Value} {base : Heap} {k : Nat} {c : Fn → DF} (ih : OkC P w K mg base k c) : FD P w K mg base k "is_many" (c .is_many) := ih .is_many
theorem okf_is_simple_row {P : Program} {w : World} {K : PySem.W.Frag} {mg : Str → Option Value} {base : Heap} {k : Nat} {c : Fn → DF} (ih : OkC P w K mg base k c) : FD P w K mg base k "is_simple_row" (c .is_simple_row) := ih .is_simple_row
theorem okf_blocks_of {P : Program} {w : World} {K : PySem.W.Frag} {mg : Str → Option Value} {base : Heap} {k : Nat} {c : Fn → DF} (ih : OkC P w K mg base k c) : FD P w K mg base k "blocks_of" (c .blocks_of) := ih .blocks_of
theorem okf_fault_in {P : Program} {w : World} {K : PySem.W.Frag} {mg : Str → Option Value} {base : Heap} {k : Nat} {c : Fn → DF} (ih : OkC P w K mg base k c) : FD P w K mg base k "fault_in" (c .fault_in) := ih .fault_in
theorem okf_first_fault {P : Program} {w : World} {K : PySem.W.Frag} {mg : Str → Option Value} {base : Heap} {k : Nat} {c : Fn → DF} (ih : OkC P w K mg base k c) : FD P w K mg base k "first_fault" (c .first_fault) := ih .first_fault
theorem okf_helper_number {P : Program} {w : World} {K : PySem.W.Frag} {mg : Str → Option Value} {base : Heap} {k : Nat} {c : Fn → DF} (ih : OkC P w K mg base k c) : FD P w K mg base k "helper_number" (c .helper_number) := ih .helper_number
theorem okf_Program_init {P : Program} {w : World} {K : PySem.W.Frag} {mg : Str → Option Value} {base : Heap} {k : Nat} {c : Fn → DF} (ih : OkC P w K mg base k c) : FI P w K mg base k "Program" (InB "Program.__init__" st_Program_init ["self", "rows"] (fun K => []) (fun K => [])) (c .Program_init) := ih .Program_init
theorem okf_l_take {P : Program} {w : World} {K : PySem.W.Frag} {mg : Str → Option Value} {base : Heap} {k : Nat} {c : Fn → DF} (ih : OkC P w K mg base k c) : FD P w K mg base k "_law_take" (c .l_take) := ih .l_take
theorem okf_l_one {P : Program} {w : World} {K : PySem.W.Frag} {mg : Str → Option Value} {base : Heap} {k : Nat} {c : Fn → DF} (ih : OkC P w K mg base k c) : FD P w K mg base k "_law_one" (c .l_one) := ih .l_one
theorem okf_l_kept {P : Program} {w : World} {K : PySem.W.Frag} {mg : Str → Option Value} {base : Heap} {k : Nat} {c : Fn → DF} (ih : OkC P w K mg base k c) : FD P w K mg base k "_law_kept" (c .l_kept) := ih .l_kept
theorem okf_l_near {P : Program} {w : World} {K : PySem.W.Frag} {mg : Str → Option Value} {base : Heap} {k : Nat} {c : Fn → DF} (ih : OkC P w K mg base k c) : FD P w K mg base k "_law_near" (c .l_near) := ih .l_near
theorem okf_l_lower {P : Program} {w : World} {K : PySem.W.Frag} {mg : Str → Option Value} {base : Heap} {k : Nat} {c : Fn → DF} (ih : OkC P w K mg base k c) : FD P w K mg base k "_law_lower" (c .l_lower) := ih .l_lower
theorem okf_l_string {P : Program} {w : World} {K : PySem.W.Frag} {mg : Str → Option Value} {base : Heap} {k : Nat} {c : Fn → DF} (ih : OkC P w K mg base k c) : FD P w K mg base k "_law_string" (c .l_string) := ih .l_string
theorem okf_l_thing {P : Program} {w : World} {K : PySem.W.Frag} {mg : Str → Option Value} {base : Heap} {k : Nat} {c : Fn → DF} (ih : OkC P w K mg base k c) : FD P w K mg base k "_law_thing" (c .l_thing) := ih .l_thing
theorem okf_l_all_in {P : Program} {w : World} {K : PySem.W.Frag} {mg : Str → Option Value} {base : Heap} {k : Nat} {c : Fn → DF} (ih : OkC P w K mg base k c) : FD P w K mg base k "_law_all_in" (c .l_all_in) := ih .l_all_in
theorem okf_l_due {P : Program} {w : World} {K : PySem.W.Frag} {mg : Str → Option Value} {base : Heap} {k : Nat} {c : Fn → DF} (ih : OkC P w K mg base k c) : FD P w K mg base k "_law_due" (c .l_due) := ih .l_due
theorem tb_ok {P : Program} {w : World} {K : PySem.W.Frag} {mg : Str → Option Value} {base : Heap} {k : Nat} {c : Fn → DF} (ih : OkC P w K mg base k c) : ∀ y g, tbOf c tbl y = some g → FD P w K mg base k y g := tbOf_ok (R := fun y g => FD P w K mg base k y g) fun q hq => by
  simp only [tbl, List.mem_cons, List.not_mem_nil, or_false] at hq
  rcases hq with rfl | rfl | rfl | rfl
  · exact ih .is_expression
  · exact ih .is_place
  · exact ih .is_any
  · exact ih .is_operand
theorem pb_Program_1 (K : PySem.W.Frag) : PoB K (InB "Program.__init__" st_Program_init ["self", "rows"] (fun K => []) (fun K => [])) dl_Program_1 := pob0 bi_Program_init
section
variable {P : Program} {w : World} {K : PySem.W.Frag} {mg : Str → Option Value} {base : Heap} {k : Nat} {c : Fn → DF}
theorem fd_l_bag (T : Tx K w mg) (hs : SysB base) (ih : OkC P w K mg base k c) : FD P w K mg base (k + 3) "_law_bag" (g_l_bag c) :=
  fd_mk T.d_l_bag T.g_l_bag sc_l_bag bi_l_bag rfl rfl fun cdv A up s H E hr3 tk pw => have hr := hr3.low
    (qss_one (qs_ret (qe_new (qf_lst (qa_cons qe_int (qa_cons qe_int (qa_cons qe_int (qa_cons (qe_frz (qf_lc (own := [("_law_cell", 1)]) rfl sc_l_bag.nd (qi_seq (qe_cut (qx (qe_var 0)) qo_none (qo_some qe_int))) (blkOk_by (own := [("_law_cell", 1)]) (N := ["_law_script", "_law_cell"]) (sc := defScope st_l_bag) (by decide +kernel)) (fun _ _ _ _ _ => (qg_name sc_l_bag.nd 1)) (fun _ _ _ _ _ => qts_nil) (fun _ _ _ _ _ => (qe_callB call_abs cas_abs T.f_abs (by decide +kernel) (qxs_cons (qx (qe_var 1)) qxs_nil))))) qa_nil))))))))
theorem fd_BadRow_init (T : Tx K w mg) (hs : SysB base) (ih : OkC P w K mg base k c) : FX P w K mg base (k + 3) "BadRow" ["path"] (g_BadRow_init c) :=
  fx_mk T.d_BadRow_init T.g_BadRow T.xc_BadRow sc_BadRow_init bi_BadRow_init rfl fun cdv A up s H E => pss_xi1 rfl T.g_FoundError T.fe_FoundError
theorem fd_Unset_init (T : Tx K w mg) (hs : SysB base) (ih : OkC P w K mg base k c) : FX P w K mg base (k + 3) "Unset" ["name"] (g_Unset_init c) :=
  fx_mk T.d_Unset_init T.g_Unset T.xc_Unset sc_Unset_init bi_Unset_init rfl fun cdv A up s H E => pss_xi1 rfl T.g_FoundError T.fe_FoundError
theorem fd_as_tuples (T : Tx K w mg) (hs : SysB base) (ih : OkC P w K mg base k c) : FD P w K mg base (k + 3) "as_tuples" (g_as_tuples c) :=
  fd_mk T.d_as_tuples T.g_as_tuples sc_as_tuples bi_as_tuples rfl rfl fun cdv A up s H E hr3 tk pw => have hr := hr3.low
    (qss_cons (qs_if (qt_tru (qx (qe_callB call_isaA (cas_isa T.bl) T.f_isinstance (by decide +kernel) (qxs_cons (qx (qe_var 0)) (qxs_cons (qx (qe_tup (qa_cons (qe_ty T.f_tuple (by decide +kernel)) (qa_cons (qe_ty T.f_list (by decide +kernel)) qa_nil)))) qxs_nil))))) (qss_one (qs_ret (qe_callTy call_tuple_of cas_tuple T.f_tuple (by decide +kernel) (qxs_cons (qx (qe_frz (qf_lc (own := [("member", 1)]) rfl sc_as_tuples.nd (qi_seq (qe_var 0)) (blkOk_by (own := [("member", 1)]) (N := ["thing", "member"]) (sc := defScope st_as_tuples) (by decide +kernel)) (fun _ _ _ _ _ => (qg_name sc_as_tuples.nd 1)) (fun _ _ _ _ _ => qts_nil) (fun _ _ _ _ _ => (qe_call (okf_as_tuples ih) hr takesW0 (qa_cons (qe_var 1) qa_nil)))))) qxs_nil)))) qss_nil) (qss_one (qs_ret (qe_var 0))))
theorem fd_values_in (T : Tx K w mg) (hs : SysB base) (ih : OkC P w K mg base k c) : FD P w K mg base (k + 3) "values_in" (g_values_in c) :=
  fd_mk T.d_values_in T.g_values_in sc_values_in bi_values_in rfl rfl fun cdv A up s H E hr3 tk pw => have hr := hr3.low
    (qss_cons (qs_if (qt_eq hr.r (qx (qe_ix (qx (qe_var 0)) (qx qe_int))) (qx qe_str)) (qss_one (qs_ret (qe_tup (qa_cons (qe_ix (qx (qe_var 0)) (qx qe_int)) qa_nil)))) qss_nil) (qss_cons (qs_if (qt_in (qx (qe_ix (qx (qe_var 0)) (qx qe_int))) (qx (qe_tup (qa_cons qe_str (qa_cons qe_str (qa_cons qe_str qa_nil)))))) (qss_one (qs_ret (qe_tup (qa_cons (qe_ix (qx (qe_var 0)) (qx qe_int)) qa_nil)))) qss_nil) (qss_cons (qs_if (qt_eq hr.r (qx (qe_ix (qx (qe_var 0)) (qx qe_int))) (qx qe_str)) (qss_one (qs_ret (qe_ix (qx (qe_var 0)) (qx qe_int)))) qss_nil) (qss_cons (qs_if (qt_eq hr.r (qx (qe_ix (qx (qe_var 0)) (qx qe_int))) (qx qe_str)) (qss_one (qs_ret (qe_tup qa_nil))) qss_nil) (qss_one (qs_ret (qe_ix (qx (qe_var 0)) (qx qe_int))))))))
theorem fd_places_in (T : Tx K w mg) (hs : SysB base) (ih : OkC P w K mg base k c) : FD P w K mg base (k + 3) "places_in" (g_places_in c) :=
  fd_mk T.d_places_in T.g_places_in sc_places_in bi_places_in rfl rfl fun cdv A up s H E hr3 tk pw => have hr := hr3.low
    (qss_cons (qs_if (qt_in (qx (qe_ix (qx (qe_var 0)) (qx qe_int))) (qx (qe_tup (qa_cons qe_str (qa_cons qe_str qa_nil))))) (qss_one (qs_ret (qe_tup (qa_cons (qe_ix (qx (qe_var 0)) (qx qe_int)) qa_nil)))) qss_nil) (qss_cons (qs_if (qt_eq hr.r (qx (qe_ix (qx (qe_var 0)) (qx qe_int))) (qx qe_str)) (qss_one (qs_ret (qe_cut (qx (qe_var 0)) (qo_some qe_int) qo_none))) qss_nil) (qss_cons (qs_if (qt_in (qx (qe_ix (qx (qe_var 0)) (qx qe_int))) (qx (qe_tup (qa_cons qe_str (qa_cons qe_str qa_nil))))) (qss_one (qs_ret (qe_ix (qx (qe_var 0)) (qx qe_int)))) qss_nil) (qss_one (qs_ret (qe_tup qa_nil))))))
theorem fd_parts_of (T : Tx K w mg) (hs : SysB base) (ih : OkC P w K mg base k c) : FD P w K mg base (k + 3) "parts_of" (g_parts_of c) :=
  fd_mk T.d_parts_of T.g_parts_of sc_parts_of bi_parts_of rfl rfl fun cdv A up s H E hr3 tk pw => have hr := hr3.low
    (qss_cons (qs_if (qt_eq hr.r (qx (qe_ix (qx (qe_var 0)) (qx qe_int))) (qx qe_str)) (qss_one (qs_ret (qe_callTy call_tuple_of cas_tuple T.f_tuple (by decide +kernel) (qxs_cons (qx (qe_ix (qx (qe_var 0)) (qx qe_int))) qxs_nil)))) qss_nil) (qss_cons (qs_if (qt_in (qx (qe_ix (qx (qe_var 0)) (qx qe_int))) (qx (qe_tup (qa_cons qe_str (qa_cons qe_str qa_nil))))) (qss_one (qs_ret (qe_callTy call_tuple_of cas_tuple T.f_tuple (by decide +kernel) (qxs_cons (qx (qe_cut (qx (qe_var 0)) (qo_some qe_int) qo_none)) qxs_nil)))) qss_nil) (qss_one (qs_ret (qe_tup qa_nil)))))
theorem fd_all_names (T : Tx K w mg) (hs : SysB base) (ih : OkC P w K mg base k c) : FD P w K mg base (k + 3) "all_names" (g_all_names c) :=
  fd_mk T.d_all_names T.g_all_names sc_all_names bi_all_names rfl rfl fun cdv A up s H E hr3 tk pw => have hr := hr3.low
    (qss_cons (qs_if (qt_eq hr.r (qx (qe_ix (qx (qe_var 0)) (qx qe_int))) (qx qe_str)) (qss_one (qs_ret (qe_frz (qf_lst (qa_cons (qe_ix (qx (qe_var 0)) (qx qe_int)) qa_nil))))) qss_nil) (qss_cons (qs_ownN sc_all_names.nd 1 (qn_f (qf_lst qa_nil))) (qss_cons (qs_for pw rfl (qi_seq (qe_call (okf_parts_of ih) hr tk (qa_cons (qe_var 0) qa_nil))) (qg_name sc_all_names.nd 2) (qss_one (qs_ownM 1 PySem.F.slot_list_extend PySem.F.type_list_extend mt_extend owns_ext (qa_cons (qe_call (okf_all_names ih) hr tk (qa_cons (qe_var 2) qa_nil)) qa_nil)))) (qss_fz 1 (qss_one (qs_ret (qe_var 1)))))))
theorem fd_read_in (T : Tx K w mg) (hs : SysB base) (ih : OkC P w K mg base k c) : FD P w K mg base (k + 3) "read_in" (g_read_in c) :=
  fd_mk T.d_read_in T.g_read_in sc_read_in bi_read_in rfl rfl fun cdv A up s H E hr3 tk pw => have hr := hr3.low
    (qss_cons (qs_ownN sc_read_in.nd 1 (qn_f (qf_lst qa_nil))) (qss_cons (qs_for pw rfl (qi_seq (qe_call (okf_values_in ih) hr tk (qa_cons (qe_var 0) qa_nil))) (qg_name sc_read_in.nd 2) (qss_one (qs_ownM 1 PySem.F.slot_list_extend PySem.F.type_list_extend mt_extend owns_ext (qa_cons (qe_call (okf_all_names ih) hr tk (qa_cons (qe_var 2) qa_nil)) qa_nil)))) (qss_cons (qs_for pw rfl (qi_seq (qe_call (okf_places_in ih) hr tk (qa_cons (qe_var 0) qa_nil))) (qg_name sc_read_in.nd 3) (qss_one (qs_if (qt_w (qw_or (qt_ne hr.r (qx (qe_ix (qx (qe_var 3)) (qx qe_int))) (qx qe_str)) (qw_or1 (qt_in (qx (qe_ix (qx (qe_var 0)) (qx qe_int))) (qx (qe_tup (qa_cons qe_str (qa_cons qe_str qa_nil)))))))) (qss_one (qs_ownM 1 PySem.F.slot_list_extend PySem.F.type_list_extend mt_extend owns_ext (qa_cons (qe_call (okf_all_names ih) hr tk (qa_cons (qe_var 3) qa_nil)) qa_nil))) qss_nil))) (qss_fz 1 (qss_one (qs_ret (qe_var 1)))))))
theorem fd_is_made_of (T : Tx K w mg) (hs : SysB base) (ih : OkC P w K mg base k c) : FD P w K mg base (k + 3) "is_made_of" (g_is_made_of c) :=
  fd_mk T.d_is_made_of T.g_is_made_of sc_is_made_of bi_is_made_of rfl rfl fun cdv A up s H E hr3 tk pw => have hr := hr3.low
    (qss_cons (qs_if (qt_w (qw_or (qt_not (qt_tru (qx (qe_callB call_isaA (cas_isa T.bl) T.f_isinstance (by decide +kernel) (qxs_cons (qx (qe_var 0)) (qxs_cons (qx (qe_ty T.f_str (by decide +kernel))) qxs_nil)))))) (qw_or1 (qt_not (qt_chn op_lt os_lt op_le os_le (qx qe_int) (qx (qe_callB call_len cas_len T.f_len (by decide +kernel) (qxs_cons (qx (qe_var 0)) qxs_nil))) (qx qe_int)))))) (qss_one (qs_ret qe_bl)) qss_nil) (qss_cons (qs_for pw rfl (qi_seq (qe_var 0)) (qg_name sc_is_made_of.nd 2) (qss_one (qs_if (qt_ni (qx (qe_var 2)) (qx (qe_var 1))) (qss_one (qs_ret qe_bl)) qss_nil))) (qss_one (qs_ret qe_bl))))
theorem fd_is_helper (T : Tx K w mg) (hs : SysB base) (ih : OkC P w K mg base k c) : FD P w K mg base (k + 3) "is_helper" (g_is_helper c) :=
  fd_mk T.d_is_helper T.g_is_helper sc_is_helper bi_is_helper rfl rfl fun cdv A up s H E hr3 tk pw => have hr := hr3.low
    (qss_cons (qs_if (qt_w (qw_or (qt_not (qt_tru (qx (qe_callB call_isaA (cas_isa T.bl) T.f_isinstance (by decide +kernel) (qxs_cons (qx (qe_var 0)) (qxs_cons (qx (qe_ty T.f_str (by decide +kernel))) qxs_nil)))))) (qw_or (qt_not (qt_chn op_le os_le op_le os_le (qx qe_int) (qx (qe_callB call_len cas_len T.f_len (by decide +kernel) (qxs_cons (qx (qe_var 0)) qxs_nil))) (qx qe_int))) (qw_or1 (qt_ne hr.r (qx (qe_ix (qx (qe_var 0)) (qx qe_int))) (qx qe_str)))))) (qss_one (qs_ret qe_bl)) qss_nil) (qss_one (qs_ret (qe_and (qe_call (okf_is_made_of ih) hr tk (qa_cons (qe_cut (qx (qe_var 0)) (qo_some qe_int) qo_none) (qa_cons (qe_con T.c_DIGITS) qa_nil))) (qe_one (qe_ne hr.r (qx (qe_ix (qx (qe_var 0)) (qx qe_int))) (qx qe_str)))))))
theorem fd_unset_in (T : Tx K w mg) (hs : SysB base) (ih : OkC P w K mg base k c) : FD P w K mg base (k + 3) "unset_in" (g_unset_in c) :=
  fd_mk T.d_unset_in T.g_unset_in sc_unset_in bi_unset_in rfl rfl fun cdv A up s H E hr3 tk pw => have hr := hr3.low
    (qss_cons (qs_asg sc_unset_in.nd 1 (qe_hdlN (qn_d (qd_copy T.f_dict (qxs_cons (qx (qe_var 1)) qxs_nil))))) (qss_cons (qs_for pw rfl (qi_seq (qe_var 0)) (qg_name sc_unset_in.nd 3) (qss_cons (qs_for pw rfl (qi_seq (qe_call (okf_read_in ih) hr tk (qa_cons (qe_var 3) qa_nil))) (qg_name sc_unset_in.nd 4) (qss_one (qs_if (qt_w (qw_and (qt_tru (qx (qe_call (okf_is_helper ih) hr tk (qa_cons (qe_var 4) qa_nil)))) (qw_and1 (qt_dni hr.r (qx (qe_var 4)) (qx (qe_var 1)))))) (qss_one (qs_dputH hr.r (qe_var 2) (qe_var 4) qe_bl)) qss_nil))) (qss_cons (qs_for pw rfl (qi_seq (qe_call (okf_places_in ih) hr tk (qa_cons (qe_var 3) qa_nil))) (qg_name sc_unset_in.nd 5) (qss_one (qs_if (qt_eq hr.r (qx (qe_ix (qx (qe_var 5)) (qx qe_int))) (qx qe_str)) (qss_one (qs_dputH hr.r (qe_var 1) (qe_ix (qx (qe_var 5)) (qx qe_int)) qe_bl)) qss_nil))) (qss_cons (qs_if (qt_eq hr.r (qx (qe_ix (qx (qe_var 3)) (qx qe_int))) (qx qe_str)) (qss_one (qs_expr (qe_call (okf_unset_in ih) hr tk (qa_cons (qe_ix (qx (qe_var 3)) (qx qe_int)) (qa_cons (qe_var 1) (qa_cons (qe_var 2) qa_nil)))))) qss_nil) (qss_one (qs_if (qt_eq hr.r (qx (qe_ix (qx (qe_var 3)) (qx qe_int))) (qx qe_str)) (qss_cons (qs_asg sc_unset_in.nd 6 (qe_call (okf_unset_in ih) hr tk (qa_cons (qe_ix (qx (qe_var 3)) (qx qe_int)) (qa_cons (qe_var 1) (qa_cons (qe_var 2) qa_nil))))) (qss_cons (qs_asg sc_unset_in.nd 7 (qe_call (okf_unset_in ih) hr tk (qa_cons (qe_ix (qx (qe_var 3)) (qx qe_int)) (qa_cons (qe_var 1) (qa_cons (qe_var 2) qa_nil))))) (qss_one (qs_asgDcV sc_unset_in.nd 1 (own := [("name", 4)]) 6 rfl sc_unset_in.nd (blkOk_by (own := [("name", 4)]) (N := ["rows", "written", "missing", "row", "name", "place", "one", "other"]) (sc := defScope st_unset_in) (by decide +kernel)) (fun _ _ _ _ _ => (qg_name sc_unset_in.nd 4)) (fun _ _ _ _ _ => (qts_one (qt_din hr.r (qx (qe_var 4)) (qx (qe_var 7))))) (fun _ _ _ _ _ => (qe_var 4)) (fun _ _ _ _ _ => qe_bl))))) qss_nil)))))) (qss_one (qs_ret (qe_var 1)))))
theorem fd_has_form (T : Tx K w mg) (hs : SysB base) (ih : OkC P w K mg base k c) : FD P w K mg base (k + 3) "has_form" (g_has_form c) :=
  fd_mk T.d_has_form T.g_has_form sc_has_form bi_has_form rfl rfl fun cdv A up s H E hr3 tk pw => have hr := hr3.low
    (qss_cons (qs_if (qt_w (qw_or (qt_not (qt_tru (qx (qe_callB call_isaA (cas_isa T.bl) T.f_isinstance (by decide +kernel) (qxs_cons (qx (qe_var 0)) (qxs_cons (qx (qe_tup (qa_cons (qe_ty T.f_tuple (by decide +kernel)) (qa_cons (qe_ty T.f_list (by decide +kernel)) qa_nil)))) qxs_nil)))))) (qw_or1 (qt_ne hr.r (qx (qe_callB call_len cas_len T.f_len (by decide +kernel) (qxs_cons (qx (qe_var 0)) qxs_nil))) (qx (qe_var 2)))))) (qss_one (qs_ret qe_bl)) qss_nil) (qss_one (qs_ret (qe_and (qe_callB call_isaA (cas_isa T.bl) T.f_isinstance (by decide +kernel) (qxs_cons (qx (qe_ix (qx (qe_var 0)) (qx qe_int))) (qxs_cons (qx (qe_ty T.f_str (by decide +kernel))) qxs_nil))) (qe_one (qe_eq hr.r (qx (qe_ix (qx (qe_var 0)) (qx qe_int))) (qx (qe_var 1))))))))
theorem fd_is_list_of (T : Tx K w mg) (hs : SysB base) (ih : OkC P w K mg base k c) : FD P w K mg base (k + 3) "is_list_of" (g_is_list_of c) :=
  fd_mk T.d_is_list_of T.g_is_list_of sc_is_list_of bi_is_list_of rfl rfl fun cdv A up s H E hr3 tk pw => have hr := hr3.low
    (qss_cons (qs_if (qt_w (qw_or (qt_not (qt_tru (qx (qe_callB call_isaA (cas_isa T.bl) T.f_isinstance (by decide +kernel) (qxs_cons (qx (qe_var 0)) (qxs_cons (qx (qe_tup (qa_cons (qe_ty T.f_tuple (by decide +kernel)) (qa_cons (qe_ty T.f_list (by decide +kernel)) qa_nil)))) qxs_nil)))))) (qw_or1 (qt_not (qt_chn op_le os_le op_le os_le (qx (qe_var 1)) (qx (qe_callB call_len cas_len T.f_len (by decide +kernel) (qxs_cons (qx (qe_var 0)) qxs_nil))) (qx (qe_var 2))))))) (qss_one (qs_ret qe_bl)) qss_nil) (qss_cons (qs_for pw rfl (qi_seq (qe_var 0)) (qg_name sc_is_list_of.nd 4) (qss_one (qs_if (qt_not (qt_tru (qx (qe_callL 3 (tb_ok ih) hr tk (qa_cons (qe_var 4) qa_nil))))) (qss_one (qs_ret qe_bl)) qss_nil))) (qss_one (qs_ret qe_bl))))
theorem fd_is_own_name (T : Tx K w mg) (hs : SysB base) (ih : OkC P w K mg base k c) : FD P w K mg base (k + 3) "is_own_name" (g_is_own_name c) :=
  fd_mk T.d_is_own_name T.g_is_own_name sc_is_own_name bi_is_own_name rfl rfl fun cdv A up s H E hr3 tk pw => have hr := hr3.low
    (qss_one (qs_ret (qe_and (qe_call (okf_is_made_of ih) hr tk (qa_cons (qe_var 0) (qa_cons (qe_con T.c_LETTERS) qa_nil))) (qe_one (qe_ni (qx (qe_var 0)) (qx (qe_con T.c_RESERVED)))))))
theorem fd_is_name (T : Tx K w mg) (hs : SysB base) (ih : OkC P w K mg base k c) : FD P w K mg base (k + 3) "is_name" (g_is_name c) :=
  fd_mk T.d_is_name T.g_is_name sc_is_name bi_is_name rfl rfl fun cdv A up s H E hr3 tk pw => have hr := hr3.low
    (qss_one (qs_ret (qe_or (qe_call (okf_is_own_name ih) hr tk (qa_cons (qe_var 0) qa_nil)) (qe_one (qe_call (okf_is_helper ih) hr tk (qa_cons (qe_var 0) qa_nil))))))
theorem fd_is_word (T : Tx K w mg) (hs : SysB base) (ih : OkC P w K mg base k c) : FD P w K mg base (k + 3) "is_word" (g_is_word c) :=
  fd_mk T.d_is_word T.g_is_word sc_is_word bi_is_word rfl rfl fun cdv A up s H E hr3 tk pw => have hr := hr3.low
    (qss_one (qs_ret (qe_call (okf_is_made_of ih) hr tk (qa_cons (qe_var 0) (qa_cons (qe_add (qx (qe_con T.c_LETTERS)) (qx (qe_con T.c_DIGITS))) qa_nil)))))
theorem fd_is_sign (T : Tx K w mg) (hs : SysB base) (ih : OkC P w K mg base k c) : FD P w K mg base (k + 3) "is_sign" (g_is_sign c) :=
  fd_mk T.d_is_sign T.g_is_sign sc_is_sign bi_is_sign rfl rfl fun cdv A up s H E hr3 tk pw => have hr := hr3.low
    (qss_one (qs_ret (qe_and (qe_call (okf_is_own_name ih) hr tk (qa_cons (qe_var 0) qa_nil)) (qe_one (qe_ne hr.r (qx (qe_var 0)) (qx qe_str))))))
theorem fd_is_expression (T : Tx K w mg) (hs : SysB base) (ih : OkC P w K mg base k c) : FD P w K mg base (k + 3) "is_expression" (g_is_expression c) :=
  fd_mk T.d_is_expression T.g_is_expression sc_is_expression bi_is_expression rfl rfl fun cdv A up s H E hr3 tk pw => have hr := hr3.low
    (qss_cons (qs_if (qt_tru (qx (qe_call (okf_has_form ih) hr tk (qa_cons (qe_var 0) (qa_cons qe_str (qa_cons qe_int qa_nil)))))) (qss_one (qs_ret (qe_call (okf_is_name ih) hr tk (qa_cons (qe_ix (qx (qe_var 0)) (qx qe_int)) qa_nil)))) qss_nil) (qss_cons (qs_if (qt_tru (qx (qe_call (okf_has_form ih) hr tk (qa_cons (qe_var 0) (qa_cons qe_str (qa_cons qe_int qa_nil)))))) (qss_one (qs_ret (qe_call (okf_is_word ih) hr tk (qa_cons (qe_ix (qx (qe_var 0)) (qx qe_int)) qa_nil)))) qss_nil) (qss_cons (qs_if (qt_tru (qx (qe_call (okf_has_form ih) hr tk (qa_cons (qe_var 0) (qa_cons qe_str (qa_cons qe_int qa_nil)))))) (qss_one (qs_ret (qe_and (qe_call (okf_is_sign ih) hr tk (qa_cons (qe_ix (qx (qe_var 0)) (qx qe_int)) qa_nil)) (qe_one (qe_call (okf_is_list_of ih) hr tk (qa_cons (qe_ix (qx (qe_var 0)) (qx qe_int)) (qa_cons qe_int (qa_cons qe_int (qa_cons (qe_glo T.g_is_expression) qa_nil))))))))) qss_nil) (qss_cons (qs_if (qt_w (qw_or (qt_tru (qx (qe_call (okf_has_form ih) hr tk (qa_cons (qe_var 0) (qa_cons qe_str (qa_cons qe_int qa_nil)))))) (qw_or1 (qt_tru (qx (qe_call (okf_has_form ih) hr tk (qa_cons (qe_var 0) (qa_cons qe_str (qa_cons qe_int qa_nil))))))))) (qss_one (qs_ret (qe_call (okf_is_list_of ih) hr tk (qa_cons (qe_callTy call_list_of cas_list T.f_list (by decide +kernel) (qxs_cons (qx (qe_cut (qx (qe_var 0)) (qo_some qe_int) qo_none)) qxs_nil)) (qa_cons qe_int (qa_cons qe_int (qa_cons (qe_glo T.g_is_expression) qa_nil))))))) qss_nil) (qss_one (qs_ret qe_bl))))))
theorem fd_is_place (T : Tx K w mg) (hs : SysB base) (ih : OkC P w K mg base k c) : FD P w K mg base (k + 3) "is_place" (g_is_place c) :=
  fd_mk T.d_is_place T.g_is_place sc_is_place bi_is_place rfl rfl fun cdv A up s H E hr3 tk pw => have hr := hr3.low
    (qss_one (qs_ret (qe_and (qe_call (okf_is_expression ih) hr tk (qa_cons (qe_var 0) qa_nil)) (qe_one (qe_in (qx (qe_ix (qx (qe_var 0)) (qx qe_int))) (qx (qe_tup (qa_cons qe_str (qa_cons qe_str (qa_cons qe_str qa_nil))))))))))
theorem fd_is_many (T : Tx K w mg) (hs : SysB base) (ih : OkC P w K mg base k c) : FD P w K mg base (k + 3) "is_many" (g_is_many c) :=
  fd_mk T.d_is_many T.g_is_many sc_is_many bi_is_many rfl rfl fun cdv A up s H E hr3 tk pw => have hr := hr3.low
    (qss_cons (qs_if (qt_w (qw_or (qt_not (qt_tru (qx (qe_call (okf_has_form ih) hr tk (qa_cons (qe_var 0) (qa_cons qe_str (qa_cons qe_int qa_nil))))))) (qw_or1 (qt_not (qt_tru (qx (qe_call (okf_is_list_of ih) hr tk (qa_cons (qe_ix (qx (qe_var 0)) (qx qe_int)) (qa_cons qe_int (qa_cons qe_int (qa_cons (qe_glo T.g_is_place) qa_nil))))))))))) (qss_one (qs_ret qe_bl)) qss_nil) (qss_cons (qs_par3 rfl sc_is_many.nd 1 2 3 (qa_cons (qe_ix (qx (qe_var 0)) (qx qe_int)) (qa_cons (qe_ix (qx (qe_var 0)) (qx qe_int)) (qa_cons (qe_ix (qx (qe_var 0)) (qx qe_int)) qa_nil)))) (qss_cons (qs_if (qt_not (qt_tru (qx (qe_call (okf_is_list_of ih) hr tk (qa_cons (qe_var 3) (qa_cons qe_int (qa_cons qe_int (qa_cons (qe_glo T.g_is_expression) qa_nil)))))))) (qss_one (qs_ret qe_bl)) qss_nil) (qss_cons (qs_if (qt_is (qx (qe_var 2)) (qx qe_non)) (qss_one (qs_ret (qe_in (qx (qe_callB call_len cas_len T.f_len (by decide +kernel) (qxs_cons (qx (qe_var 3)) qxs_nil))) (qx (qe_tup (qa_cons qe_int (qa_cons (qe_callB call_len cas_len T.f_len (by decide +kernel) (qxs_cons (qx (qe_var 1)) qxs_nil)) qa_nil))))))) qss_nil) (qss_cons (qs_if (qt_w (qw_or (qt_not (qt_tru (qx (qe_callB call_isaA (cas_isa T.bl) T.f_isinstance (by decide +kernel) (qxs_cons (qx (qe_var 2)) (qxs_cons (qx (qe_ty T.f_int (by decide +kernel))) qxs_nil)))))) (qw_or1 (qt_tru (qx (qe_callB call_isaA (cas_isa T.bl) T.f_isinstance (by decide +kernel) (qxs_cons (qx (qe_var 2)) (qxs_cons (qx (qe_ty T.f_bool (by decide +kernel))) qxs_nil)))))))) (qss_one (qs_ret qe_bl)) qss_nil) (qss_one (qs_ret (qe_and (qe_eq hr.r (qx (qe_callB call_len cas_len T.f_len (by decide +kernel) (qxs_cons (qx (qe_var 3)) qxs_nil))) (qx qe_int)) (qe_one (qe_chn op_le os_le op_lt os_lt (qx qe_int) (qx (qe_var 2)) (qx (qe_callB call_len cas_len T.f_len (by decide +kernel) (qxs_cons (qx (qe_var 1)) qxs_nil)))))))))))))
theorem fd_is_simple_row (T : Tx K w mg) (hs : SysB base) (ih : OkC P w K mg base k c) : FD P w K mg base (k + 3) "is_simple_row" (g_is_simple_row c) :=
  fd_mk T.d_is_simple_row T.g_is_simple_row sc_is_simple_row bi_is_simple_row rfl rfl fun cdv A up s H E hr3 tk pw => have hr := hr3.low
    (qss_cons (qs_if (qt_tru (qx (qe_call (okf_has_form ih) hr tk (qa_cons (qe_var 0) (qa_cons qe_str (qa_cons qe_int qa_nil)))))) (qss_one (qs_ret (qe_call (okf_is_expression ih) hr tk (qa_cons (qe_ix (qx (qe_var 0)) (qx qe_int)) qa_nil)))) qss_nil) (qss_cons (qs_if (qt_w (qw_or (qt_tru (qx (qe_call (okf_has_form ih) hr tk (qa_cons (qe_var 0) (qa_cons qe_str (qa_cons qe_int qa_nil)))))) (qw_or1 (qt_tru (qx (qe_call (okf_has_form ih) hr tk (qa_cons (qe_var 0) (qa_cons qe_str (qa_cons qe_int qa_nil))))))))) (qss_one (qs_ret (qe_and (qe_call (okf_is_place ih) hr tk (qa_cons (qe_ix (qx (qe_var 0)) (qx qe_int)) qa_nil)) (qe_one (qe_call (okf_is_expression ih) hr tk (qa_cons (qe_ix (qx (qe_var 0)) (qx qe_int)) qa_nil)))))) qss_nil) (qss_cons (qs_if (qt_tru (qx (qe_call (okf_has_form ih) hr tk (qa_cons (qe_var 0) (qa_cons qe_str (qa_cons qe_int qa_nil)))))) (qss_one (qs_ret (qe_and (qe_call (okf_is_place ih) hr tk (qa_cons (qe_ix (qx (qe_var 0)) (qx qe_int)) qa_nil)) (qe_one (qe_call (okf_is_place ih) hr tk (qa_cons (qe_ix (qx (qe_var 0)) (qx qe_int)) qa_nil)))))) qss_nil) (qss_cons (qs_if (qt_tru (qx (qe_call (okf_has_form ih) hr tk (qa_cons (qe_var 0) (qa_cons qe_str (qa_cons qe_int qa_nil)))))) (qss_one (qs_ret (qe_and (qe_call (okf_is_list_of ih) hr tk (qa_cons (qe_ix (qx (qe_var 0)) (qx qe_int)) (qa_cons qe_int (qa_cons qe_int (qa_cons (qe_glo T.g_is_place) qa_nil))))) (qe_one (qe_call (okf_is_expression ih) hr tk (qa_cons (qe_ix (qx (qe_var 0)) (qx qe_int)) qa_nil)))))) qss_nil) (qss_one (qs_ret (qe_call (okf_is_many ih) hr tk (qa_cons (qe_var 0) qa_nil))))))))
theorem fd_is_any (T : Tx K w mg) (hs : SysB base) (ih : OkC P w K mg base k c) : FD P w K mg base (k + 3) "is_any" (g_is_any c) :=
  fd_mk T.d_is_any T.g_is_any sc_is_any bi_is_any rfl rfl fun cdv A up s H E hr3 tk pw => have hr := hr3.low
    (qss_one (qs_ret qe_bl))
theorem fd_is_operand (T : Tx K w mg) (hs : SysB base) (ih : OkC P w K mg base k c) : FD P w K mg base (k + 3) "is_operand" (g_is_operand c) :=
  fd_mk T.d_is_operand T.g_is_operand sc_is_operand bi_is_operand rfl rfl fun cdv A up s H E hr3 tk pw => have hr := hr3.low
    (qss_one (qs_ret (qe_and (qe_call (okf_is_expression ih) hr tk (qa_cons (qe_var 0) qa_nil)) (qe_one (qe_in (qx (qe_ix (qx (qe_var 0)) (qx qe_int))) (qx (qe_tup (qa_cons qe_str (qa_cons qe_str qa_nil)))))))))
theorem fd_blocks_of (T : Tx K w mg) (hs : SysB base) (ih : OkC P w K mg base k c) : FD P w K mg base (k + 3) "blocks_of" (g_blocks_of c) :=
  fd_mk T.d_blocks_of T.g_blocks_of sc_blocks_of bi_blocks_of rfl rfl fun cdv A up s H E hr3 tk pw => have hr := hr3.low
    (qss_cons (qs_if (qt_tru (qx (qe_call (okf_has_form ih) hr tk (qa_cons (qe_var 0) (qa_cons qe_str (qa_cons qe_int qa_nil)))))) (qss_one (qs_if (qt_not (qt_tru (qx (qe_call (okf_is_list_of ih) hr tk (qa_cons (qe_ix (qx (qe_var 0)) (qx qe_int)) (qa_cons qe_int (qa_cons qe_int (qa_cons (qe_glo T.g_is_any) qa_nil)))))))) (qss_one (qs_ret qe_non)) qss_nil)) (qss_one (qs_if (qt_not (qt_tru (qx (qe_call (okf_has_form ih) hr tk (qa_cons (qe_var 0) (qa_cons qe_str (qa_cons qe_int qa_nil))))))) (qss_one (qs_ret qe_non)) qss_nil))) (qss_cons (qs_if (qt_w (qw_or (qt_not (qt_tru (qx (qe_call (okf_is_sign ih) hr tk (qa_cons (qe_ix (qx (qe_var 0)) (qx qe_int)) qa_nil))))) (qw_or1 (qt_not (qt_tru (qx (qe_call (okf_is_list_of ih) hr tk (qa_cons (qe_ix (qx (qe_var 0)) (qx qe_int)) (qa_cons qe_int (qa_cons qe_int (qa_cons (qe_glo T.g_is_operand) qa_nil))))))))))) (qss_one (qs_ret qe_non)) qss_nil) (qss_cons (qs_if (qt_not (qt_tru (qx (qe_call (okf_is_list_of ih) hr tk (qa_cons (qe_ix (qx (qe_var 0)) (qx qe_int)) (qa_cons qe_int (qa_cons qe_int (qa_cons (qe_glo T.g_is_any) qa_nil)))))))) (qss_one (qs_ret qe_non)) qss_nil) (qss_one (qs_ret (qe_callTy call_tuple_of cas_tuple T.f_tuple (by decide +kernel) (qxs_cons (qx (qe_cut (qx (qe_var 0)) (qo_some qe_int) qo_none)) qxs_nil)))))))
theorem fd_fault_in (T : Tx K w mg) (hs : SysB base) (ih : OkC P w K mg base k c) : FD P w K mg base (k + 3) "fault_in" (g_fault_in c) :=
  fd_mk T.d_fault_in T.g_fault_in sc_fault_in bi_fault_in rfl rfl fun cdv A up s H E hr3 tk pw => have hr := hr3.low
    (qss_cons (qs_if (qt_tru (qx (qe_call (okf_is_simple_row ih) hr tk (qa_cons (qe_var 0) qa_nil)))) (qss_one (qs_ret qe_non)) qss_nil) (qss_cons (qs_asg sc_fault_in.nd 1 (qe_call (okf_blocks_of ih) hr tk (qa_cons (qe_var 0) qa_nil))) (qss_cons (qs_if (qt_is (qx (qe_var 1)) (qx qe_non)) (qss_one (qs_ret (qe_tup qa_nil))) qss_nil) (qss_cons (qs_for pw rfl (qi_enum T.f_enumerate (qa_cons (qe_var 1) qa_nil)) (qg_tup rfl (qgs_cons (qg_name sc_fault_in.nd 2) (qgs_cons (qg_name sc_fault_in.nd 3) qgs_nil))) (qss_cons (qs_asg sc_fault_in.nd 4 (qe_call (okf_first_fault ih) hr tk (qa_cons (qe_var 3) qa_nil))) (qss_one (qs_if (qt_isnot (qx (qe_var 4)) (qx qe_non)) (qss_one (qs_ret (qe_add (qx (qe_tup (qa_cons (qe_var 2) qa_nil))) (qx (qe_var 4))))) qss_nil)))) (qss_one (qs_ret qe_non))))))
theorem fd_first_fault (T : Tx K w mg) (hs : SysB base) (ih : OkC P w K mg base k c) : FD P w K mg base (k + 3) "first_fault" (g_first_fault c) :=
  fd_mk T.d_first_fault T.g_first_fault sc_first_fault bi_first_fault rfl rfl fun cdv A up s H E hr3 tk pw => have hr := hr3.low
    (qss_cons (qs_for pw rfl (qi_enum T.f_enumerate (qa_cons (qe_var 0) qa_nil)) (qg_tup rfl (qgs_cons (qg_name sc_first_fault.nd 1) (qgs_cons (qg_name sc_first_fault.nd 2) qgs_nil))) (qss_cons (qs_asg sc_first_fault.nd 3 (qe_call (okf_fault_in ih) hr tk (qa_cons (qe_var 2) qa_nil))) (qss_one (qs_if (qt_isnot (qx (qe_var 3)) (qx qe_non)) (qss_one (qs_ret (qe_add (qx (qe_tup (qa_cons (qe_var 1) qa_nil))) (qx (qe_var 3))))) qss_nil)))) (qss_one (qs_ret qe_non)))
theorem fd_helper_number (T : Tx K w mg) (hs : SysB base) (ih : OkC P w K mg base k c) : FD P w K mg base (k + 3) "helper_number" (g_helper_number c) :=
  fd_mk T.d_helper_number T.g_helper_number sc_helper_number bi_helper_number rfl rfl fun cdv A up s H E hr3 tk pw => have hr := hr3.low
    (qss_one (qs_ret (qe_callTy call_int2 cas_int2 T.f_int (by decide +kernel) (qxs_cons (qx (qe_cut (qx (qe_var 0)) (qo_some qe_int) qo_none)) qxs_nil))))
theorem fd_Program_init (T : Tx K w mg) (hs : SysB base) (ih : OkC P w K mg base k c) : FI P w K mg base (k + 3) "Program" (InB "Program.__init__" st_Program_init ["self", "rows"] (fun K => []) (fun K => [])) (g_Program_init c) :=
  fi_mk T.d_Program_init T.g_Program T.mk_Program sc_Program_init rfl rfl fun cdv A up s H E hr3 tk pw => have hr := hr3.low
    (qss_cons (qs_asg sc_Program_init.nd 2 (qe_tup qa_nil)) (qss_cons (qs_if (qt_tru (qx (qe_callB call_isaA (cas_isa T.bl) T.f_isinstance (by decide +kernel) (qxs_cons (qx (qe_var 1)) (qxs_cons (qx (qe_tup (qa_cons (qe_ty T.f_tuple (by decide +kernel)) (qa_cons (qe_ty T.f_list (by decide +kernel)) qa_nil)))) qxs_nil))))) (qss_one (qs_asg sc_Program_init.nd 2 (qe_call (okf_first_fault ih) hr tk (qa_cons (qe_var 1) qa_nil)))) qss_nil) (qss_cons (qs_if (qt_isnot (qx (qe_var 2)) (qx qe_non)) (qss_one (qs_raise (okf_BadRow_init ih) hr tk rfl (by decide) (qa_cons (qe_var 2) qa_nil))) qss_nil) (qss_cons (qs_fld ⟨T.k_Program, T.na_Program_held⟩ (qe_var 0) (qe_call (okf_as_tuples ih) hr tk (qa_cons (qe_var 1) qa_nil))) (qss_cons (qs_asg sc_Program_init.nd 3 (qe_hdlN (qn_d qd_nil))) (qss_cons (qs_expr (qe_call (okf_unset_in ih) hr tk (qa_cons (qe_fld ⟨T.k_Program, T.na_Program_held⟩ (qe_var 0)) (qa_cons (qe_frzD qd_nil) (qa_cons (qe_var 3) qa_nil))))) (qss_one (qs_if (qt_tru (qx (qe_var 3))) (qss_one (qs_raise (okf_Unset_init ih) hr tk rfl (by decide) (qa_cons (qe_ix (qx (qe_frz (qf_srtKey (okf_helper_number ih) hr3 T.f_sorted (qxs_cons (qx (qe_var 3)) qxs_nil)))) (qx qe_int)) qa_nil))) qss_nil))))))))
theorem fd_l_take (T : Tx K w mg) (hs : SysB base) (ih : OkC P w K mg base k c) : FD P w K mg base (k + 3) "_law_take" (g_l_take c) :=
  fd_mk T.d_l_take T.g_l_take sc_l_take bi_l_take rfl rfl fun cdv A up s H E hr3 tk pw => have hr := hr3.low
    (qss_cons (qs_if (qt_eq hr.r (qx (qe_ix (qx (qe_var 0)) (qx qe_int))) (qx qe_int)) (qss_cons (qs_asg sc_l_take.nd 2 qe_int) (qss_cons (qs_if (qt_lt (qx (qe_ix (qx (qe_var 0)) (qx qe_int))) (qx (qe_callB call_len cas_len T.f_len (by decide +kernel) (qxs_cons (qx (qe_ix (qx (qe_var 0)) (qx qe_int))) qxs_nil)))) (qss_one (qs_asg sc_l_take.nd 2 (qe_ix (qx (qe_ix (qx (qe_var 0)) (qx qe_int))) (qx (qe_ix (qx (qe_var 0)) (qx qe_int)))))) qss_nil) (qss_cons (qs_augI ip_add ips_add (qe_var 0) qe_int qe_int) (qss_cons (qs_if (qt_ge (qx (qe_var 2)) (qx qe_int)) (qss_one (qs_setI (qe_var 0) qe_int (qe_var 2))) qss_nil) (qss_cons (qs_asg sc_l_take.nd 3 (qe_add (qx (qe_add (qx (qe_mul (qx (qe_ix (qx (qe_var 0)) (qx qe_int))) (qx qe_int))) (qx (qe_mod (qx (qe_callTy call_int2 cas_int2 T.f_int (by decide +kernel) (qxs_cons (qx (qe_var 2)) qxs_nil))) (qx qe_int))))) (qx (qe_mul (qx qe_int) (qx (qe_ix (qx (qe_var 0)) (qx qe_int))))))) (qss_one (qs_setI (qe_var 0) qe_int (qe_mod (qx (qe_callTy call_int2 cas_int2 T.f_int (by decide +kernel) (qxs_cons (qx (qe_var 3)) qxs_nil))) (qx qe_int))))))))) qss_nil) (qss_cons (qs_if (qt_gt (qx (qe_ix (qx (qe_var 0)) (qx qe_int))) (qx qe_int)) (qss_cons (qs_asg sc_l_take.nd 4 (qe_mod (qx (qe_callTy call_int2 cas_int2 T.f_int (by decide +kernel) (qxs_cons (qx (qe_ix (qx (qe_var 0)) (qx qe_int))) qxs_nil))) (qx (qe_var 1)))) (qss_cons (qs_setI (qe_var 0) qe_int (qe_fdiv (qx (qe_callTy call_int2 cas_int2 T.f_int (by decide +kernel) (qxs_cons (qx (qe_ix (qx (qe_var 0)) (qx qe_int))) qxs_nil))) (qx (qe_var 1)))) (qss_one (qs_ret (qe_var 4))))) qss_nil) (qss_cons (qs_asg sc_l_take.nd 5 (qe_mod (qx (qe_callTy call_int2 cas_int2 T.f_int (by decide +kernel) (qxs_cons (qx (qe_mul (qx (qe_add (qx (qe_ix (qx (qe_var 0)) (qx qe_int))) (qx qe_int))) (qx qe_int))) qxs_nil))) (qx qe_int))) (qss_cons (qs_asg sc_l_take.nd 6 (qe_mod (qx (qe_callTy call_int2 cas_int2 T.f_int (by decide +kernel) (qxs_cons (qx (qe_mul (qx (qe_mod (qx (qe_callTy call_int2 cas_int2 T.f_int (by decide +kernel) (qxs_cons (qx (qe_mul (qx (qe_var 5)) (qx (qe_var 5)))) qxs_nil))) (qx qe_int))) (qx qe_int))) qxs_nil))) (qx qe_int))) (qss_one (qs_ret (qe_mod (qx (qe_callTy call_int2 cas_int2 T.f_int (by decide +kernel) (qxs_cons (qx (qe_fdiv (qx (qe_var 6)) (qx qe_int))) qxs_nil))) (qx (qe_var 1)))))))))
theorem fd_l_one (T : Tx K w mg) (hs : SysB base) (ih : OkC P w K mg base k c) : FD P w K mg base (k + 3) "_law_one" (g_l_one c) :=
  fd_mk T.d_l_one T.g_l_one sc_l_one bi_l_one rfl rfl fun cdv A up s H E hr3 tk pw => have hr := hr3.low
    (qss_one (qs_ret (qe_ix (qx (qe_var 1)) (qx (qe_call (okf_l_take ih) hr tk (qa_cons (qe_var 0) (qa_cons (qe_callB call_len cas_len T.f_len (by decide +kernel) (qxs_cons (qx (qe_var 1)) qxs_nil)) qa_nil)))))))
theorem fd_l_kept (T : Tx K w mg) (hs : SysB base) (ih : OkC P w K mg base k c) : FD P w K mg base (k + 3) "_law_kept" (g_l_kept c) :=
  fd_mk T.d_l_kept T.g_l_kept sc_l_kept bi_l_kept rfl rfl fun cdv A up s H E hr3 tk pw => have hr := hr3.low
    (qss_cons (qs_asg sc_l_kept.nd 1 (qe_call (okf_l_one ih) hr tk (qa_cons (qe_var 0) (qa_cons (qe_frz (qf_lst (qa_cons qe_str (qa_cons qe_str (qa_cons qe_str (qa_cons qe_str (qa_cons qe_str (qa_cons qe_str (qa_cons qe_str (qa_cons qe_str qa_nil)))))))))) qa_nil)))) (qss_one (qs_ret (qe_ix (qx (qe_frz (qf_lst (qa_cons (qe_var 1) (qa_cons (qe_add (qx (qe_var 1)) (qx qe_str)) (qa_cons (qe_cut (qx (qe_var 1)) qo_none (qo_some (qe_neg qe_int))) (qa_cons (qe_upper (qe_var 1)) (qa_cons (qe_add (qx qe_str) (qx (qe_var 1))) (qa_cons (qe_add (qx (qe_var 1)) (qx qe_str)) (qa_cons (qe_add (qx (qe_var 1)) (qx qe_str)) qa_nil)))))))))) (qx (qe_call (okf_l_take ih) hr tk (qa_cons (qe_var 0) (qa_cons qe_int qa_nil))))))))
theorem fd_l_near (T : Tx K w mg) (hs : SysB base) (ih : OkC P w K mg base k c) : FD P w K mg base (k + 3) "_law_near" (g_l_near c) :=
  fd_mk T.d_l_near T.g_l_near sc_l_near bi_l_near rfl rfl fun cdv A up s H E hr3 tk pw => have hr := hr3.low
    (qss_cons (qs_asg sc_l_near.nd 1 (qe_call (okf_l_take ih) hr tk (qa_cons (qe_var 0) (qa_cons qe_int qa_nil)))) (qss_one (qs_ret (qe_add (qx (qe_ix (qx (qe_frz (qf_lst (qa_cons qe_str (qa_cons qe_str (qa_cons qe_str (qa_cons qe_str (qa_cons qe_str (qa_cons qe_str (qa_cons qe_str qa_nil)))))))))) (qx (qe_call (okf_l_take ih) hr tk (qa_cons (qe_var 0) (qa_cons qe_int qa_nil)))))) (qx (qe_callTy call_strA cas_str T.f_str (by decide +kernel) (qxs_cons (qx (qe_var 1)) qxs_nil)))))))
theorem fd_l_lower (T : Tx K w mg) (hs : SysB base) (ih : OkC P w K mg base k c) : FD P w K mg base (k + 3) "_law_lower" (g_l_lower c) :=
  fd_mk T.d_l_lower T.g_l_lower sc_l_lower bi_l_lower rfl rfl fun cdv A up s H E hr3 tk pw => have hr := hr3.low
    (qss_cons (qs_asg sc_l_lower.nd 1 (qe_add (qx qe_int) (qx (qe_call (okf_l_take ih) hr tk (qa_cons (qe_var 0) (qa_cons qe_int qa_nil)))))) (qss_one (qs_ret (qe_strM PySem.F.slot_str_join PySem.F.type_str_join mt_join mts_join qe_str (qa_cons (qe_frz (qf_lc (own := [("_law_k", 2)]) rfl sc_l_lower.nd (qi_range1 T.f_range (qa_cons (qe_var 1) qa_nil)) (blkOk_by (own := [("_law_k", 2)]) (N := ["_law_bag_here", "_law_size", "_law_k"]) (sc := defScope st_l_lower) (by decide +kernel)) (fun _ _ _ _ _ => (qg_name sc_l_lower.nd 2)) (fun _ _ _ _ _ => qts_nil) (fun _ _ _ _ _ => (qe_ix (qx qe_str) (qx (qe_call (okf_l_take ih) hr takesW0 (qa_cons (qe_var 0) (qa_cons qe_int qa_nil)))))))) qa_nil)))))
theorem fd_l_string (T : Tx K w mg) (hs : SysB base) (ih : OkC P w K mg base k c) : FD P w K mg base (k + 3) "_law_string" (g_l_string c) :=
  fd_mk T.d_l_string T.g_l_string sc_l_string bi_l_string rfl rfl fun cdv A up s H E hr3 tk pw => have hr := hr3.low
    (qss_cons (qs_asg sc_l_string.nd 1 qe_str) (qss_cons (qs_asg sc_l_string.nd 2 (qe_call (okf_l_take ih) hr tk (qa_cons (qe_var 0) (qa_cons qe_int qa_nil)))) (qss_one (qs_ret (qe_strM PySem.F.slot_str_join PySem.F.type_str_join mt_join mts_join qe_str (qa_cons (qe_frz (qf_lc (own := [("_law_k", 3)]) rfl sc_l_string.nd (qi_range1 T.f_range (qa_cons (qe_var 2) qa_nil)) (blkOk_by (own := [("_law_k", 3)]) (N := ["_law_bag_here", "_law_menu", "_law_size", "_law_k"]) (sc := defScope st_l_string) (by decide +kernel)) (fun _ _ _ _ _ => (qg_name sc_l_string.nd 3)) (fun _ _ _ _ _ => qts_nil) (fun _ _ _ _ _ => (qe_ix (qx (qe_var 1)) (qx (qe_call (okf_l_take ih) hr takesW0 (qa_cons (qe_var 0) (qa_cons qe_int qa_nil)))))))) qa_nil))))))
theorem fd_l_thing (T : Tx K w mg) (hs : SysB base) (ih : OkC P w K mg base k c) : FD P w K mg base (k + 3) "_law_thing" (g_l_thing c) :=
  fd_mk T.d_l_thing T.g_l_thing sc_l_thing bi_l_thing rfl rfl fun cdv A up s H E hr3 tk pw => have hr := hr3.low
    (qss_cons (qs_asg sc_l_thing.nd 1 (qe_call (okf_l_take ih) hr tk (qa_cons (qe_var 0) (qa_cons qe_int qa_nil)))) (qss_cons (qs_if (qt_eq hr.r (qx (qe_var 1)) (qx qe_int)) (qss_cons (qs_asg sc_l_thing.nd 2 (qe_frz (qf_lst (qa_cons qe_non (qa_cons qe_bl (qa_cons qe_int (qa_cons qe_int (qa_cons (qe_tup (qa_cons qe_str qa_nil)) (qa_cons (qe_frz (qf_lst (qa_cons qe_str qa_nil))) (qa_cons (qe_frzD (qd_disp (qp_cons qe_str qe_int qp_nil))) (qa_cons (qe_tup qa_nil) (qa_cons qe_str (qa_cons (qe_frz (qf_lst (qa_cons qe_str (qa_cons qe_str qa_nil)))) (qa_cons (qe_tup (qa_cons qe_str (qa_cons qe_str qa_nil))) qa_nil)))))))))))))) (qss_cons (qs_asg sc_l_thing.nd 2 (qe_add (qx (qe_var 2)) (qx (qe_frz (qf_lst (qa_cons qe_str (qa_cons qe_str (qa_cons qe_str (qa_cons qe_str (qa_cons qe_str (qa_cons qe_str (qa_cons qe_str (qa_cons (qe_add (qx qe_str) (qx (qe_mulS (qx qe_str) (qx qe_int)))) (qa_cons (qe_mulS (qx qe_str) (qx qe_int)) qa_nil)))))))))))))) (qss_one (qs_ret (qe_call (okf_l_one ih) hr tk (qa_cons (qe_var 0) (qa_cons (qe_var 2) qa_nil))))))) qss_nil) (qss_cons (qs_if (qt_eq hr.r (qx (qe_var 1)) (qx qe_int)) (qss_one (qs_ret (qe_call (okf_l_kept ih) hr tk (qa_cons (qe_var 0) qa_nil)))) qss_nil) (qss_cons (qs_if (qt_eq hr.r (qx (qe_var 1)) (qx qe_int)) (qss_one (qs_ret (qe_call (okf_l_near ih) hr tk (qa_cons (qe_var 0) qa_nil)))) qss_nil) (qss_one (qs_ret (qe_if (qt_eq hr.r (qx (qe_var 1)) (qx qe_int)) (qe_call (okf_l_lower ih) hr tk (qa_cons (qe_var 0) qa_nil)) (qe_call (okf_l_string ih) hr tk (qa_cons (qe_var 0) qa_nil)))))))))
theorem fd_l_all_in (T : Tx K w mg) (hs : SysB base) (ih : OkC P w K mg base k c) : FD P w K mg base (k + 3) "_law_all_in" (g_l_all_in c) :=
  fd_mk T.d_l_all_in T.g_l_all_in sc_l_all_in bi_l_all_in rfl rfl fun cdv A up s H E hr3 tk pw => have hr := hr3.low
    (qss_one (qs_ret (qe_eq hr.r (qx (qe_frz (qf_lc (own := [("_law_letter", 2)]) rfl sc_l_all_in.nd (qi_seq (qe_var 0)) (blkOk_by (own := [("_law_letter", 2)]) (N := ["_law_thing_here", "_law_letters", "_law_letter"]) (sc := defScope st_l_all_in) (by decide +kernel)) (fun _ _ _ _ _ => (qg_name sc_l_all_in.nd 2)) (fun _ _ _ _ _ => (qts_one (qt_ni (qx (qe_var 2)) (qx (qe_var 1))))) (fun _ _ _ _ _ => (qe_var 2))))) (qx (qe_frz (qf_lst qa_nil))))))
theorem fd_l_due (T : Tx K w mg) (hs : SysB base) (ih : OkC P w K mg base k c) : FD P w K mg base (k + 3) "_law_due" (g_l_due c) :=
  fd_mk T.d_l_due T.g_l_due sc_l_due bi_l_due rfl rfl fun cdv A up s H E hr3 tk pw => have hr := hr3.low
    (qss_cons (qs_asgG (qe_tup (qa_cons qe_str (qa_cons qe_str qa_nil))) (qg_tup rfl (qgs_cons (qg_name sc_l_due.nd 1) (qgs_cons (qg_name sc_l_due.nd 2) qgs_nil)))) (qss_cons (qs_if (qt_w (qw_or (qt_not (qt_tru (qx (qe_callB call_isaA (cas_isa T.bl) T.f_isinstance (by decide +kernel) (qxs_cons (qx (qe_var 0)) (qxs_cons (qx (qe_ty T.f_str (by decide +kernel))) qxs_nil)))))) (qw_or1 (qt_niRng T.f_range (qx (qe_callB call_len cas_len T.f_len (by decide +kernel) (qxs_cons (qx (qe_var 0)) qxs_nil))) (qxs_cons (qx qe_int) (qxs_cons (qx qe_int) qxs_nil)))))) (qss_one (qs_ret (qe_frz (qf_lst (qa_cons qe_bl (qa_cons qe_bl (qa_cons qe_bl (qa_cons qe_bl qa_nil)))))))) qss_nil) (qss_cons (qs_asg sc_l_due.nd 3 (qe_and (qe_call (okf_l_all_in ih) hr tk (qa_cons (qe_var 0) (qa_cons (qe_var 1) qa_nil))) (qe_one (qe_ni (qx (qe_var 0)) (qx (qe_tup (qa_cons qe_str (qa_cons qe_str (qa_cons qe_str (qa_cons qe_str (qa_cons qe_str qa_nil))))))))))) (qss_cons (qs_asg sc_l_due.nd 4 (qe_and (qe_eq hr.r (qx (qe_ix (qx (qe_var 0)) (qx qe_int))) (qx qe_str)) (qe_one (qe_in (qx (qe_cut (qx (qe_var 0)) (qo_some qe_int) qo_none)) (qx (qe_frz (qf_lc (own := [("_law_k", 5)]) rfl sc_l_due.nd (qi_range2 T.f_range (qa_cons qe_int (qa_cons qe_int qa_nil))) (blkOk_by (own := [("_law_k", 5)]) (N := ["_law_thing_here", "_law_lower_here", "_law_digits", "_law_own", "_law_helper", "_law_k"]) (sc := defScope st_l_due) (by decide +kernel)) (fun _ _ _ _ _ => (qg_name sc_l_due.nd 5)) (fun _ _ _ _ _ => qts_nil) (fun _ _ _ _ _ => (qe_callTy call_strA cas_str T.f_str (by decide +kernel) (qxs_cons (qx (qe_var 5)) qxs_nil)))))))))) (qss_one (qs_ret (qe_frz (qf_lst (qa_cons (qe_var 3) (qa_cons (qe_var 4) (qa_cons (qe_call (okf_l_all_in ih) hr tk (qa_cons (qe_var 0) (qa_cons (qe_add (qx (qe_var 1)) (qx (qe_var 2))) qa_nil))) (qa_cons (qe_and (qe_var 3) (qe_one (qe_ne hr.r (qx (qe_var 0)) (qx qe_str)))) qa_nil))))))))))))
theorem fd_law (T : Tx K w mg) (hs : SysB base) (ih : OkC P w K mg base k c) : FD P w K mg base (k + 3) "law" (g_law c) :=
  fd_mk T.d_law T.g_law sc_law bi_law rfl rfl fun cdv A up s H E hr3 tk pw => have hr := hr3.low
    (qss_cons (qs_asg sc_law.nd 1 (qe_call (okf_l_bag ih) hr tk (qa_cons (qe_var 0) qa_nil))) (qss_cons (qs_for pw rfl (qi_range1 T.f_range (qa_cons qe_int qa_nil)) (qg_name sc_law.nd 2) (qss_cons (qs_asg sc_law.nd 3 (qe_call (okf_l_thing ih) hr tk (qa_cons (qe_var 1) qa_nil))) (qss_cons (qs_par rfl sc_law.nd 4 5 (qa_cons (qe_call (okf_l_due ih) hr tk (qa_cons (qe_var 3) qa_nil)) (qa_cons (qe_callB (call_repr hr hs) cas_repr T.f_repr (by decide +kernel) (qxs_cons (qx (qe_var 3)) qxs_nil)) qa_nil))) (qss_cons (qs_asg sc_law.nd 6 (qe_frz (qf_lst (qa_cons (qe_call (okf_is_own_name ih) hr tk (qa_cons (qe_var 3) qa_nil)) (qa_cons (qe_call (okf_is_helper ih) hr tk (qa_cons (qe_var 3) qa_nil)) (qa_cons (qe_call (okf_is_word ih) hr tk (qa_cons (qe_var 3) qa_nil)) (qa_cons (qe_call (okf_is_sign ih) hr tk (qa_cons (qe_var 3) qa_nil)) qa_nil))))))) (qss_one (qs_if (qt_w (qw_or (qt_ne hr.r (qx (qe_var 6)) (qx (qe_var 4))) (qw_or (qt_ne hr.r (qx (qe_frz (qf_lc (own := [("_law_k", 7)]) rfl sc_law.nd (qi_seq (qe_var 6)) (blkOk_by (own := [("_law_k", 7)]) (N := ["_law_script", "_law_bag_here", "_law_turn", "_law_thing_here", "_law_due_here", "_law_shown", "_law_found", "_law_k"]) (sc := defScope st_law) (by decide +kernel)) (fun _ _ _ _ _ => (qg_name sc_law.nd 7)) (fun _ _ _ _ _ => (qts_one (qt_not (qt_tru (qx (qe_callB call_isaA (cas_isa T.bl) T.f_isinstance (by decide +kernel) (qxs_cons (qx (qe_var 7)) (qxs_cons (qx (qe_ty T.f_bool (by decide +kernel))) qxs_nil)))))))) (fun _ _ _ _ _ => (qe_var 7))))) (qx (qe_frz (qf_lst qa_nil)))) (qw_or1 (qt_ne hr.r (qx (qe_callB (call_repr hr hs) cas_repr T.f_repr (by decide +kernel) (qxs_cons (qx (qe_var 3)) qxs_nil))) (qx (qe_var 5))))))) (qss_one (qs_ret qe_bl)) qss_nil)))))) (qss_cons (qs_for pw rfl (qi_seq (qe_tup (qa_cons (qe_mk (FI.fk (okf_Program_init ih) (pb_Program_1 _)) hr tk (qa_cons (qe_frz (qf_lst qa_nil)) qa_nil)) (qa_cons (qe_exc (okf_Unset_init ih) hr (by decide) (qa_cons qe_str qa_nil)) (qa_cons (qe_frz (qf_lst (qa_cons (qe_mk (FI.fk (okf_Program_init ih) (pb_Program_1 _)) hr tk (qa_cons (qe_frz (qf_lst qa_nil)) qa_nil)) qa_nil))) qa_nil))))) (qg_name sc_law.nd 3) (qss_one (qs_if (qt_ne hr.r (qx (qe_frz (qf_lst (qa_cons (qe_call (okf_is_own_name ih) hr tk (qa_cons (qe_var 3) qa_nil)) (qa_cons (qe_call (okf_is_helper ih) hr tk (qa_cons (qe_var 3) qa_nil)) (qa_cons (qe_call (okf_is_word ih) hr tk (qa_cons (qe_var 3) qa_nil)) (qa_cons (qe_call (okf_is_sign ih) hr tk (qa_cons (qe_var 3) qa_nil)) qa_nil))))))) (qx (qe_rep (qx (qe_frz (qf_lst (qa_cons qe_bl qa_nil)))) (qx qe_int)))) (qss_one (qs_ret qe_bl)) qss_nil))) (qss_cons (qs_for pw rfl (qi_range2 T.f_range (qa_cons qe_int (qa_cons qe_int qa_nil))) (qg_name sc_law.nd 7) (qss_one (qs_if (qt_w (qw_or (qt_not (qt_tru (qx (qe_call (okf_is_helper ih) hr tk (qa_cons (qe_add (qx qe_str) (qx (qe_callTy call_strA cas_str T.f_str (by decide +kernel) (qxs_cons (qx (qe_var 7)) qxs_nil)))) qa_nil))))) (qw_or1 (qt_tru (qx (qe_call (okf_is_own_name ih) hr tk (qa_cons (qe_add (qx qe_str) (qx (qe_callTy call_strA cas_str T.f_str (by decide +kernel) (qxs_cons (qx (qe_var 7)) qxs_nil)))) qa_nil))))))) (qss_one (qs_ret qe_bl)) qss_nil))) (qss_one (qs_ret qe_bl))))))
end
section
variable {P : Program} {w : World} {K : PySem.W.Frag} {mg : Str → Option Value} {base : Heap}
theorem all_ok (T : Tx K w mg) (hs : SysB base) : ∀ n, OkC P w K mg base (3 * n) (calls n)
  | 0 => fun f => match f with
    | .l_bag => fd_no T.d_l_bag T.g_l_bag bi_l_bag
    | .BadRow_init => fx_no
    | .Unset_init => fx_no
    | .as_tuples => fd_no T.d_as_tuples T.g_as_tuples bi_as_tuples
    | .values_in => fd_no T.d_values_in T.g_values_in bi_values_in
    | .places_in => fd_no T.d_places_in T.g_places_in bi_places_in
    | .parts_of => fd_no T.d_parts_of T.g_parts_of bi_parts_of
    | .all_names => fd_no T.d_all_names T.g_all_names bi_all_names
    | .read_in => fd_no T.d_read_in T.g_read_in bi_read_in
    | .is_made_of => fd_no T.d_is_made_of T.g_is_made_of bi_is_made_of
    | .is_helper => fd_no T.d_is_helper T.g_is_helper bi_is_helper
    | .unset_in => fd_no T.d_unset_in T.g_unset_in bi_unset_in
    | .has_form => fd_no T.d_has_form T.g_has_form bi_has_form
    | .is_list_of => fd_no T.d_is_list_of T.g_is_list_of bi_is_list_of
    | .is_own_name => fd_no T.d_is_own_name T.g_is_own_name bi_is_own_name
    | .is_name => fd_no T.d_is_name T.g_is_name bi_is_name
    | .is_word => fd_no T.d_is_word T.g_is_word bi_is_word
    | .is_sign => fd_no T.d_is_sign T.g_is_sign bi_is_sign
    | .is_expression => fd_no T.d_is_expression T.g_is_expression bi_is_expression
    | .is_place => fd_no T.d_is_place T.g_is_place bi_is_place
    | .is_many => fd_no T.d_is_many T.g_is_many bi_is_many
    | .is_simple_row => fd_no T.d_is_simple_row T.g_is_simple_row bi_is_simple_row
    | .is_any => fd_no T.d_is_any T.g_is_any bi_is_any
    | .is_operand => fd_no T.d_is_operand T.g_is_operand bi_is_operand
    | .blocks_of => fd_no T.d_blocks_of T.g_blocks_of bi_blocks_of
    | .fault_in => fd_no T.d_fault_in T.g_fault_in bi_fault_in
    | .first_fault => fd_no T.d_first_fault T.g_first_fault bi_first_fault
    | .helper_number => fd_no T.d_helper_number T.g_helper_number bi_helper_number
    | .Program_init => fi_no T.d_Program_init T.g_Program T.mk_Program
    | .l_take => fd_no T.d_l_take T.g_l_take bi_l_take
    | .l_one => fd_no T.d_l_one T.g_l_one bi_l_one
    | .l_kept => fd_no T.d_l_kept T.g_l_kept bi_l_kept
    | .l_near => fd_no T.d_l_near T.g_l_near bi_l_near
    | .l_lower => fd_no T.d_l_lower T.g_l_lower bi_l_lower
    | .l_string => fd_no T.d_l_string T.g_l_string bi_l_string
    | .l_thing => fd_no T.d_l_thing T.g_l_thing bi_l_thing
    | .l_all_in => fd_no T.d_l_all_in T.g_l_all_in bi_l_all_in
    | .l_due => fd_no T.d_l_due T.g_l_due bi_l_due
    | .law => fd_no T.d_law T.g_law bi_law
  | n + 1 => fun f => match f with
    | .l_bag => fd_l_bag T hs (all_ok T hs n)
    | .BadRow_init => fd_BadRow_init T hs (all_ok T hs n)
    | .Unset_init => fd_Unset_init T hs (all_ok T hs n)
    | .as_tuples => fd_as_tuples T hs (all_ok T hs n)
    | .values_in => fd_values_in T hs (all_ok T hs n)
    | .places_in => fd_places_in T hs (all_ok T hs n)
    | .parts_of => fd_parts_of T hs (all_ok T hs n)
    | .all_names => fd_all_names T hs (all_ok T hs n)
    | .read_in => fd_read_in T hs (all_ok T hs n)
    | .is_made_of => fd_is_made_of T hs (all_ok T hs n)
    | .is_helper => fd_is_helper T hs (all_ok T hs n)
    | .unset_in => fd_unset_in T hs (all_ok T hs n)
    | .has_form => fd_has_form T hs (all_ok T hs n)
    | .is_list_of => fd_is_list_of T hs (all_ok T hs n)
    | .is_own_name => fd_is_own_name T hs (all_ok T hs n)
    | .is_name => fd_is_name T hs (all_ok T hs n)
    | .is_word => fd_is_word T hs (all_ok T hs n)
    | .is_sign => fd_is_sign T hs (all_ok T hs n)
    | .is_expression => fd_is_expression T hs (all_ok T hs n)
    | .is_place => fd_is_place T hs (all_ok T hs n)
    | .is_many => fd_is_many T hs (all_ok T hs n)
    | .is_simple_row => fd_is_simple_row T hs (all_ok T hs n)
    | .is_any => fd_is_any T hs (all_ok T hs n)
    | .is_operand => fd_is_operand T hs (all_ok T hs n)
    | .blocks_of => fd_blocks_of T hs (all_ok T hs n)
    | .fault_in => fd_fault_in T hs (all_ok T hs n)
    | .first_fault => fd_first_fault T hs (all_ok T hs n)
    | .helper_number => fd_helper_number T hs (all_ok T hs n)
    | .Program_init => fd_Program_init T hs (all_ok T hs n)
    | .l_take => fd_l_take T hs (all_ok T hs n)
    | .l_one => fd_l_one T hs (all_ok T hs n)
    | .l_kept => fd_l_kept T hs (all_ok T hs n)
    | .l_near => fd_l_near T hs (all_ok T hs n)
    | .l_lower => fd_l_lower T hs (all_ok T hs n)
    | .l_string => fd_l_string T hs (all_ok T hs n)
    | .l_thing => fd_l_thing T hs (all_ok T hs n)
    | .l_all_in => fd_l_all_in T hs (all_ok T hs n)
    | .l_due => fd_l_due T hs (all_ok T hs n)
    | .law => fd_law T hs (all_ok T hs n)
theorem ok_law {fd : FuncData} (T : Tx K w mg) (hs : SysB base) (F : FunD K "law" "law" (defArgs st_law) (defBody st_law) (defScope st_law) [] [] (He.ga K "law") fd) : FnG P w K mg base (3 * (20 + 1)) (He.ga K "law") fd ["_law_script"] (spD K (calls (20 + 1) .law)) :=
  have ih : OkC P w K mg base (3 * 20) (calls 20) := all_ok T hs 20
  fn_mk (k := 3 * 20 + 2) (fb := fb_law (calls 20)) F sc_law fun cdv A up s H E hr3 tk pw => have hr := hr3.low
    (qss_cons (qs_asg sc_law.nd 1 (qe_call (okf_l_bag ih) hr tk (qa_cons (qe_var 0) qa_nil))) (qss_cons (qs_for pw rfl (qi_range1 T.f_range (qa_cons qe_int qa_nil)) (qg_name sc_law.nd 2) (qss_cons (qs_asg sc_law.nd 3 (qe_call (okf_l_thing ih) hr tk (qa_cons (qe_var 1) qa_nil))) (qss_cons (qs_par rfl sc_law.nd 4 5 (qa_cons (qe_call (okf_l_due ih) hr tk (qa_cons (qe_var 3) qa_nil)) (qa_cons (qe_callB (call_repr hr hs) cas_repr T.f_repr (by decide +kernel) (qxs_cons (qx (qe_var 3)) qxs_nil)) qa_nil))) (qss_cons (qs_asg sc_law.nd 6 (qe_frz (qf_lst (qa_cons (qe_call (okf_is_own_name ih) hr tk (qa_cons (qe_var 3) qa_nil)) (qa_cons (qe_call (okf_is_helper ih) hr tk (qa_cons (qe_var 3) qa_nil)) (qa_cons (qe_call (okf_is_word ih) hr tk (qa_cons (qe_var 3) qa_nil)) (qa_cons (qe_call (okf_is_sign ih) hr tk (qa_cons (qe_var 3) qa_nil)) qa_nil))))))) (qss_one (qs_if (qt_w (qw_or (qt_ne hr.r (qx (qe_var 6)) (qx (qe_var 4))) (qw_or (qt_ne hr.r (qx (qe_frz (qf_lc (own := [("_law_k", 7)]) rfl sc_law.nd (qi_seq (qe_var 6)) (blkOk_by (own := [("_law_k", 7)]) (N := ["_law_script", "_law_bag_here", "_law_turn", "_law_thing_here", "_law_due_here", "_law_shown", "_law_found", "_law_k"]) (sc := defScope st_law) (by decide +kernel)) (fun _ _ _ _ _ => (qg_name sc_law.nd 7)) (fun _ _ _ _ _ => (qts_one (qt_not (qt_tru (qx (qe_callB call_isaA (cas_isa T.bl) T.f_isinstance (by decide +kernel) (qxs_cons (qx (qe_var 7)) (qxs_cons (qx (qe_ty T.f_bool (by decide +kernel))) qxs_nil)))))))) (fun _ _ _ _ _ => (qe_var 7))))) (qx (qe_frz (qf_lst qa_nil)))) (qw_or1 (qt_ne hr.r (qx (qe_callB (call_repr hr hs) cas_repr T.f_repr (by decide +kernel) (qxs_cons (qx (qe_var 3)) qxs_nil))) (qx (qe_var 5))))))) (qss_one (qs_ret qe_bl)) qss_nil)))))) (qss_cons (qs_for pw rfl (qi_seq (qe_tup (qa_cons (qe_mk (FI.fk (okf_Program_init ih) (pb_Program_1 _)) hr tk (qa_cons (qe_frz (qf_lst qa_nil)) qa_nil)) (qa_cons (qe_exc (okf_Unset_init ih) hr (by decide) (qa_cons qe_str qa_nil)) (qa_cons (qe_frz (qf_lst (qa_cons (qe_mk (FI.fk (okf_Program_init ih) (pb_Program_1 _)) hr tk (qa_cons (qe_frz (qf_lst qa_nil)) qa_nil)) qa_nil))) qa_nil))))) (qg_name sc_law.nd 3) (qss_one (qs_if (qt_ne hr.r (qx (qe_frz (qf_lst (qa_cons (qe_call (okf_is_own_name ih) hr tk (qa_cons (qe_var 3) qa_nil)) (qa_cons (qe_call (okf_is_helper ih) hr tk (qa_cons (qe_var 3) qa_nil)) (qa_cons (qe_call (okf_is_word ih) hr tk (qa_cons (qe_var 3) qa_nil)) (qa_cons (qe_call (okf_is_sign ih) hr tk (qa_cons (qe_var 3) qa_nil)) qa_nil))))))) (qx (qe_rep (qx (qe_frz (qf_lst (qa_cons qe_bl qa_nil)))) (qx qe_int)))) (qss_one (qs_ret qe_bl)) qss_nil))) (qss_cons (qs_for pw rfl (qi_range2 T.f_range (qa_cons qe_int (qa_cons qe_int qa_nil))) (qg_name sc_law.nd 7) (qss_one (qs_if (qt_w (qw_or (qt_not (qt_tru (qx (qe_call (okf_is_helper ih) hr tk (qa_cons (qe_add (qx qe_str) (qx (qe_callTy call_strA cas_str T.f_str (by decide +kernel) (qxs_cons (qx (qe_var 7)) qxs_nil)))) qa_nil))))) (qw_or1 (qt_tru (qx (qe_call (okf_is_own_name ih) hr tk (qa_cons (qe_add (qx qe_str) (qx (qe_callTy call_strA cas_str T.f_str (by decide +kernel) (qxs_cons (qx (qe_var 7)) qxs_nil)))) qa_nil))))))) (qss_one (qs_ret qe_bl)) qss_nil))) (qss_one (qs_ret qe_bl))))))
end
theorem tx_mk {K : PySem.W.Frag} {w : World} {h : Heap} {mg : Str → Option Value} (KX : K.In h) (G : h.Ns mainGlobals mg) (c : SaysN fa fn ts w K) : Tx K w mg :=
  ⟨He.free_ok KX G (c.fact 0 (f := .free "abs") rfl), He.free_ok KX G (c.fact 1 (f := .free "bool") rfl), He.free_ok KX G (c.fact 2 (f := .free "dict") rfl), He.free_ok KX G (c.fact 3 (f := .free "enumerate") rfl), He.free_ok KX G (c.fact 4 (f := .free "int") rfl), He.free_ok KX G (c.fact 5 (f := .free "isinstance") rfl), He.free_ok KX G (c.fact 6 (f := .free "len") rfl), He.free_ok KX G (c.fact 7 (f := .free "list") rfl), He.free_ok KX G (c.fact 8 (f := .free "range") rfl), He.free_ok KX G (c.fact 9 (f := .free "repr") rfl), He.free_ok KX G (c.fact 10 (f := .free "sorted") rfl), He.free_ok KX G (c.fact 11 (f := .free "str") rfl), He.free_ok KX G (c.fact 12 (f := .free "tuple") rfl), con_ok KX G (c.fact 13 (f := .con "DIGITS" c_DIGITS) rfl), con_ok KX G (c.fact 14 (f := .con "LETTERS" c_LETTERS) rfl), con_ok KX G (c.fact 15 (f := .con "RESERVED" c_RESERVED) rfl), He.glo_ok KX G (c.fact 16 (f := .glo "_law_bag") rfl), He.glo_ok KX G (c.fact 17 (f := .glo "as_tuples") rfl), He.glo_ok KX G (c.fact 18 (f := .glo "values_in") rfl), He.glo_ok KX G (c.fact 19 (f := .glo "places_in") rfl), He.glo_ok KX G (c.fact 20 (f := .glo "parts_of") rfl), He.glo_ok KX G (c.fact 21 (f := .glo "all_names") rfl), He.glo_ok KX G (c.fact 22 (f := .glo "read_in") rfl), He.glo_ok KX G (c.fact 23 (f := .glo "is_made_of") rfl), He.glo_ok KX G (c.fact 24 (f := .glo "is_helper") rfl), He.glo_ok KX G (c.fact 25 (f := .glo "unset_in") rfl), He.glo_ok KX G (c.fact 26 (f := .glo "has_form") rfl), He.glo_ok KX G (c.fact 27 (f := .glo "is_list_of") rfl), He.glo_ok KX G (c.fact 28 (f := .glo "is_own_name") rfl), He.glo_ok KX G (c.fact 29 (f := .glo "is_name") rfl), He.glo_ok KX G (c.fact 30 (f := .glo "is_word") rfl), He.glo_ok KX G (c.fact 31 (f := .glo "is_sign") rfl), He.glo_ok KX G (c.fact 32 (f := .glo "is_expression") rfl), He.glo_ok KX G (c.fact 33 (f := .glo "is_place") rfl), He.glo_ok KX G (c.fact 34 (f := .glo "is_many") rfl), He.glo_ok KX G (c.fact 35 (f := .glo "is_simple_row") rfl), He.glo_ok KX G (c.fact 36 (f := .glo "is_any") rfl), He.glo_ok KX G (c.fact 37 (f := .glo "is_operand") rfl), He.glo_ok KX G (c.fact 38 (f := .glo "blocks_of") rfl), He.glo_ok KX G (c.fact 39 (f := .glo "fault_in") rfl), He.glo_ok KX G (c.fact 40 (f := .glo "first_fault") rfl), He.glo_ok KX G (c.fact 41 (f := .glo "helper_number") rfl), He.glo_ok KX G (c.fact 42 (f := .glo "_law_take") rfl), He.glo_ok KX G (c.fact 43 (f := .glo "_law_one") rfl), He.glo_ok KX G (c.fact 44 (f := .glo "_law_kept") rfl), He.glo_ok KX G (c.fact 45 (f := .glo "_law_near") rfl), He.glo_ok KX G (c.fact 46 (f := .glo "_law_lower") rfl), He.glo_ok KX G (c.fact 47 (f := .glo "_law_string") rfl), He.glo_ok KX G (c.fact 48 (f := .glo "_law_thing") rfl), He.glo_ok KX G (c.fact 49 (f := .glo "_law_all_in") rfl), He.glo_ok KX G (c.fact 50 (f := .glo "_law_due") rfl), He.glo_ok KX G (c.fact 51 (f := .glo "law") rfl), He.glo_ok KX G (c.fact 52 (f := .glo "BadRow") rfl), He.glo_ok KX G (c.fact 53 (f := .glo "FoundError") rfl), He.glo_ok KX G (c.fact 54 (f := .glo "Program") rfl), He.glo_ok KX G (c.fact 55 (f := .glo "Unset") rfl), cls_f (c.fact 56 (f := faB (.cls "Program")) rfl), mkr_f (c.fact 57 (f := faB (.mkr "Program")) rfl), noat_f (c.fact 58 (f := faB (.noat "Program" "held")) rfl), fe_f (c.fact 59 (f := feB "FoundError") rfl), xc_f (c.fact 60 (f := xcB "BadRow" ["path"]) rfl), xc_f (c.fact 61 (f := xcB "Unset" ["name"]) rfl), xt_f (c.fact 62 (f := xtB xtab) rfl), bl_f (c.fact 63 (f := blB bl_os bl_xs) rfl), c.def_ 0 (d := dd_l_bag) rfl, c.def_ 1 (d := dd_BadRow_init) rfl, c.def_ 2 (d := dd_Unset_init) rfl, c.def_ 3 (d := dd_as_tuples) rfl, c.def_ 4 (d := dd_values_in) rfl, c.def_ 5 (d := dd_places_in) rfl, c.def_ 6 (d := dd_parts_of) rfl, c.def_ 7 (d := dd_all_names) rfl, c.def_ 8 (d := dd_read_in) rfl, c.def_ 9 (d := dd_is_made_of) rfl, c.def_ 10 (d := dd_is_helper) rfl, c.def_ 11 (d := dd_unset_in) rfl, c.def_ 12 (d := dd_has_form) rfl, c.def_ 13 (d := dd_is_list_of) rfl, c.def_ 14 (d := dd_is_own_name) rfl, c.def_ 15 (d := dd_is_name) rfl, c.def_ 16 (d := dd_is_word) rfl, c.def_ 17 (d := dd_is_sign) rfl, c.def_ 18 (d := dd_is_expression) rfl, c.def_ 19 (d := dd_is_place) rfl, c.def_ 20 (d := dd_is_many) rfl, c.def_ 21 (d := dd_is_simple_row) rfl, c.def_ 22 (d := dd_is_any) rfl, c.def_ 23 (d := dd_is_operand) rfl, c.def_ 24 (d := dd_blocks_of) rfl, c.def_ 25 (d := dd_fault_in) rfl, c.def_ 26 (d := dd_first_fault) rfl, c.def_ 27 (d := dd_helper_number) rfl, c.def_ 28 (d := dd_Program_init) rfl, c.def_ 29 (d := dd_l_take) rfl, c.def_ 30 (d := dd_l_one) rfl, c.def_ 31 (d := dd_l_kept) rfl, c.def_ 32 (d := dd_l_near) rfl, c.def_ 33 (d := dd_l_lower) rfl, c.def_ 34 (d := dd_l_string) rfl, c.def_ 35 (d := dd_l_thing) rfl, c.def_ 36 (d := dd_l_all_in) rfl, c.def_ 37 (d := dd_l_due) rfl, c.def_ 38 (d := dd_law) rfl⟩
end Row
open PySem PySem.W PySem.Calls PyProof.Rows
theorem PySem.Challenge.cw_foundtwice_k12_names_words_and_signs_holds : PySem.Challenge.rw_foundtwice_k12_names_words_and_signs.Holds := by
  w_on; o_law
  refine HandSHeadRun.head_any (r := OpenLaw.row PySem.Challenge.rw_foundtwice_k12_names_words_and_signs) (q := view (OpenLaw.row PySem.Challenge.rw_foundtwice_k12_names_words_and_signs).prog [51]) (H := Row.hk) (ob := Row.ob) (M := 20000) (loose := Row.loose) (d := HandSHeadRun.topDef (OpenLaw.row PySem.Challenge.rw_foundtwice_k12_names_words_and_signs).prog 51) (kwd := []) Row.ob_eq
    (by kernel_rfl) (fun s => by kernel_rfl) Row.run (by kernel_rfl) (by kernel_rfl) (by kernel_rfl) (by rfl) (by first | assumption | decide +kernel) (by decide +kernel) ⟨rfl, rfl, rfl, rfl, rfl, by decide +kernel⟩ ?hw ?hc
  case hw => w_witness2
  case hc =>
    refine DL.walk_g (l := PySem.Challenge.rw_foundtwice_k12_names_words_and_signs) (n := 63) (k := 3 * (20 + 1)) (x := "_law_script") rfl (by decide) (by kernel_rfl) (by kernel_rfl) ⟨⟨rfl, by decide, by decide⟩, rfl⟩ ?F
    intro w mg fa h Y G hmg0
    obtain ⟨K, KX, c⟩ := Y
    have hmg : mg ("law" : PySem.Str) = some (.ref fa) := by
      have e : (HandSHeadRun.topDef (OpenLaw.row PySem.Challenge.rw_foundtwice_k12_names_words_and_signs).prog 51).name = ("law" : PySem.Str) := by kernel_rfl
      rw [← e]
      exact hmg0
    have T := Row.tx_mk KX G c
    have e := hmg.symm.trans T.g_law
    cases e
    obtain ⟨fd, F⟩ := T.d_law
    have b := L2.FunD.bindsA (ps := ["_law_script"]) F fun _ _ _ _ _ _ us hl => match us, hl with | [_], _ => rfl
    exact ⟨K, fd, DL.spD K (DL.calls (20 + 1) .law), KX, fun s v => b s [v] rfl, fun H a ns hl hS => DL.law_end DL.law_true H a ns hl hS, fun base _ _ hs => Row.ok_law T hs F⟩
