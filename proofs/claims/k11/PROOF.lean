import PyProof.Rows.All
import Wide.All
import OpenK.AllK
import Wide.FinOn
import HandS.ForMost
import HandS.Exc
import HandS.Defaults
import HandS.IsInst
import HandS.Flow
import HandS.Wide
import HandS.Codes
import HandS.TupAny
import HandS.Style
import HandS.CallSlots
import HandS.HeadHook1
import HandS.HeadHook2
import HandS.ExcInit
import HandS.Lambda
import HandS.Head0
import HandS.Head1
import HandS.Head2
import HandS.HeadEnd
import HandS.More
import HandS.MakeKwOnly
import HandS.Property
import HandS.ClsMeth
import HandS.HeadHook3
import HandS.Strs
import KE.KRevSl
import HandS.HeadNt
import KE.GoesZip
import KE.GoesMore
import KE.GoesEnum
import HandS.Sort
import HandS.RaiseMore
import HandS.Set
import HandS.SetFor
import PyProof.Rows.SortShellAny
import PyProof.Rows.StrMeet
import PyProof.P3Eq
import HandS.OwnEq
import HandS.ExcField
import KE.KExcIs
import HandS.ExcIs
import KE.KCallOwn
import HandS.Conv
import HandS.DictComp
import KE.KOpsOwn
import HandS.TryOnly
import HandS.ListItems
import HandS.DeepEq
import KE.KSortKeySt
import HandS.SortKw
import HandS.FStr
import HandS.Text
import HandS.TryElse
import PyProof.StrBlock2
import HandS.WideBits
import HandS.ExcValue
import KE.KStateDown
import Lean
import PySem.Challenge.RW_foundtwice_k11_errors_apart
set_option Elab.async false
set_option linter.all false
set_option maxRecDepth 100000
set_option maxHeartbeats 0
namespace DL
open PySem L2
inductive Dv where
  | non | bl (b : Bool) | int (i : Int) | str (x : Str) | tup (l : List Dv) | lst (l : List Dv) | rol (l : List Dv) | dic (l : List (Key × Dv)) | obj (c : Str) (fs : List (Str × Dv)) | hdl (k : Nat) | glo (x : Str) | ty (n : String) | ext (t : Nat) (c : Str) (ns : List Str) (l : List Dv)
inductive Ob where
  | lst (l : List Dv) | dct (l : List (Key × Dv)) | ins (c : Str) (fs : List (Str × Dv)) | ext (t : Nat) (c : Str) (l : List Dv)
abbrev Sto := List Ob
inductive Sl where
  | no | va (d : Dv) | own (o : Ob)
abbrev Sl.ow (l : List Dv) : Sl := .own (.lst l)
abbrev Sl.od (l : List (Key × Dv)) : Sl := .own (.dct l)
abbrev Sl.oi (c : Str) (fs : List (Str × Dv)) : Sl := .own (.ins c fs)
abbrev Env := List Sl
/-- a tuple of the top -/
def TK (K : PySem.W.Frag) (a : Addr) (xs : List V) : Prop := (∀ H', SqT K H' a xs) ∧ ∃ o, K.lookup a = some o ∧ o.cls = .type "tuple" ∧ o.dict = none
/-- other things: an exception held as a value (1; 2: without fields), a code object (3) -/
inductive KindE (K : PySem.W.Frag) : Nat → Str → List Str → Addr → List V → List (Addr × HO) → Prop
  | exc {a dx : Addr} {c : Str} {ns : List Str} {vs : List V} : vs.length = ns.length → KindE K 1 c ns a vs [(a, exo a (He.ga K c) (some dx)), (dx, exd dx (ns.zip vs).reverse)]
  | exc0 {a : Addr} {c : Str} : KindE K 2 c [] a [] [(a, exo a (He.ga K c) none)]
  | cod {a : Addr} {c : Str} : KindE K 3 c [] a [] [(a, LamX.CodeO a c)]
theorem KindE.nodk {K : PySem.W.Frag} {t : Nat} {c : Str} {ns : List Str} {a : Addr} {vs : List V} {os : List (Addr × HO)} (h : KindE K t c ns a vs os) : ∀ p ∈ os, ∀ kvs, p.2 ≠ .dK kvs := by
  intro p hp kvs
  cases h with
  | exc _ =>
    rcases List.mem_cons.mp hp with rfl | hp
    · unfold exo; exact fun z => nomatch z
    · cases List.mem_singleton.mp hp; unfold exd; exact fun z => nomatch z
  | exc0 => cases List.mem_singleton.mp hp; unfold exo; exact fun z => nomatch z
  | cod => cases List.mem_singleton.mp hp; unfold LamX.CodeO; exact fun z => nomatch z
/-- other things of the store: a table of code objects of the def c (1) -/
inductive KindO (K : PySem.W.Frag) : Nat → Str → Addr → List V → HO → Prop
  | tab {a : Addr} {c : Str} {vs : List V} {ps : Array Value} : TriplesOk ps.toList → (∀ (pos : Pos) (cv : Value), codeAmong pos ps.toList = some cv → ∃ c, cv = .ref c ∧ V.ref c ∈ vs) → KindO K 1 c a vs (.tbl ps)
section
variable (K : PySem.W.Frag) (L : Addr → Prop) (io : List Addr) (H : Hp)
mutual
inductive VR : V → Dv → Prop
  | non : VR .non .non
  | bl (b : Bool) : VR (.bl b) (.bl b)
  | int (i : Int) : VR (.int i) (.int i)
  | str (x : Str) : VR (.str x) (.str x)
  | tup {a : Addr} {xs : List V} {ds : List Dv} : ¬ L a → H a = some (.tup xs) → VRs xs ds → VR (.ref a) (.tup ds)
  | tupK {a : Addr} {xs : List V} {ds : List Dv} : TK K a xs → VRs xs ds → VR (.ref a) (.tup ds)
  | lst {a : Addr} {xs : List V} {ds : List Dv} : ¬ L a → H a = some (.lst xs) → VRs xs ds → VR (.ref a) (.lst ds)
  | rol {a : Addr} {xs : List V} {ds : List Dv} : ¬ L a → Rd H a (.lst xs) → VRs xs ds → VR (.ref a) (.rol ds)
  | rolK {a : Addr} {xs : List V} {ds : List Dv} : (∀ H', SqL K H' a xs) → VRs xs ds → VR (.ref a) (.rol ds)
  | dic {a : Addr} {kvs : List (Key × V)} {l : List (Key × Dv)} : ¬ L a → Rd H a (.dK kvs) → VRp kvs l → VR (.ref a) (.dic l)
  | obj {a dx : Addr} {c : Str} {vs : List (Str × V)} {fs : List (Str × Dv)} : ¬ L a → H a = some (.ins (He.ga K c) dx vs) → VRf vs fs → VR (.ref a) (.obj c fs)
  | hdl {a : Addr} {k : Nat} : io[k]? = some a → VR (.ref a) (.hdl k)
  | glo (x : Str) : VR (.ref (He.ga K x)) (.glo x)
  | ty (n : String) : VR (.ty n) (.ty n)
  | ext {a : Addr} {t : Nat} {c : Str} {ns : List Str} {vs : List V} {ds : List Dv} {os : List (Addr × HO)} : t ≠ 0 → KindE K t c ns a vs os → (∀ p ∈ os, ¬ L p.1 ∧ H p.1 = some p.2) → VRs vs ds → VR (.ref a) (.ext t c ns ds)
inductive VRs : List V → List Dv → Prop
  | nil : VRs [] []
  | cons {v : V} {vs : List V} {d : Dv} {ds : List Dv} : VR v d → VRs vs ds → VRs (v :: vs) (d :: ds)
inductive VRp : List (Key × V) → List (Key × Dv) → Prop
  | nil : VRp [] []
  | cons {k : Key} {v : V} {vs : List (Key × V)} {d : Dv} {ds : List (Key × Dv)} : VR v d → VRp vs ds → VRp ((k, v) :: vs) ((k, d) :: ds)
inductive VRf : List (Str × V) → List (Str × Dv) → Prop
  | nil : VRf [] []
  | cons {k : Str} {v : V} {vs : List (Str × V)} {d : Dv} {ds : List (Str × Dv)} : VR v d → VRf vs ds → VRf ((k, v) :: vs) ((k, d) :: ds)
end
end
/-- from one state to a later one: handles are added, what is new is fresh, what is no handle's stands -/
structure Stp (L : Addr → Prop) (io : List Addr) (H : Hp) (L' : Addr → Prop) (io' : List Addr) (H' : Hp) : Prop where
  pre : ∃ more, io' = io ++ more
  hn : ∀ x ∈ io', x ∈ io ∨ H x = none
  new : ∀ a, L' a → L a ∨ H a = none
  keep : ∀ a o, H a = some o → a ∉ io → H' a = some o
  up : ∀ a, L a → L' a
theorem Stp.refl (L : Addr → Prop) (io : List Addr) (H : Hp) : Stp L io H L io H := ⟨⟨[], by simp⟩, fun _ h => .inl h, fun _ h => .inl h, fun _ _ h _ => h, fun _ h => h⟩
theorem Stp.back {L L1 : Addr → Prop} {io io1 : List Addr} {H H1 : Hp} (a : Stp L io H L1 io1 H1) {x : Addr} (h : H1 x = none) : x ∈ io ∨ H x = none := by
  cases e : H x with
  | none => exact .inr rfl
  | some o =>
    by_cases hx : x ∈ io
    · exact .inl hx
    · rw [a.keep x o e hx] at h
      cases h
theorem Stp.trans {L L1 L2 : Addr → Prop} {io io1 io2 : List Addr} {H H1 H2 : Hp} (a : Stp L io H L1 io1 H1) (b : Stp L1 io1 H1 L2 io2 H2) (sub : ∀ x ∈ io, L x) : Stp L io H L2 io2 H2 where
  pre := by
    obtain ⟨m, rfl⟩ := a.pre
    obtain ⟨m1, rfl⟩ := b.pre
    exact ⟨m ++ m1, by simp⟩
  hn := fun x h => by
    rcases b.hn x h with h1 | h1
    · exact a.hn x h1
    · exact a.back h1
  new := fun x h => by
    rcases b.new x h with h1 | h1
    · exact a.new x h1
    · rcases a.back h1 with z | z
      · exact .inl (sub x z)
      · exact .inr z
  keep := fun x o h hn => by
    refine b.keep x o (a.keep x o h hn) fun hx => ?_
    rcases a.hn x hx with z | z
    · exact hn z
    · rw [z] at h; cases h
  up := fun x h => b.up x (a.up x h)
theorem rd_keep {H H' : Hp} {a : Addr} {u : HO} (r : Rd H a u) (k : ∀ o, H a = some o → H' a = some o) : Rd H' a u := by
  rcases r with r | ⟨o, r⟩
  · exact .inl (k _ r)
  · exact .inr ⟨o, k _ r⟩
theorem rd_some {H : Hp} {a : Addr} {u : HO} (r : Rd H a u) : ∃ o, H a = some o := by
  rcases r with r | ⟨o, r⟩
  · exact ⟨_, r⟩
  · exact ⟨_, r⟩
theorem io_keep {io more : List Addr} {k : Nat} {a : Addr} (h : io[k]? = some a) : (io ++ more)[k]? = some a := by
  have := (List.getElem?_eq_some_iff.mp h).1
  rw [List.getElem?_append_left this]
  exact h
section
variable {K : PySem.W.Frag} {L L' : Addr → Prop} {io io' : List Addr} {H H' : Hp}
/-- the general way on: handles stay, what is not volatile stands and stays not volatile -/
theorem VR.on (hp : ∀ (k : Nat) (a : Addr), io[k]? = some a → io'[k]? = some a) (hl : ∀ a o, H a = some o → ¬ L a → H' a = some o ∧ ¬ L' a) :
    ∀ {v : V} {d : Dv}, VR K L io H v d → VR K L' io' H' v d := by
  intro v d h
  refine VR.rec (motive_1 := fun v d _ => VR K L' io' H' v d) (motive_2 := fun vs ds _ => VRs K L' io' H' vs ds) (motive_3 := fun vs ds _ => VRp K L' io' H' vs ds) (motive_4 := fun vs ds _ => VRf K L' io' H' vs ds) ?_ ?_ ?_ ?_ ?_ ?_ ?_ ?_ ?_ ?_ ?_ ?_ ?_ ?_ ?_ ?_ ?_ ?_ ?_ ?_ ?_ h
  · exact .non
  · exact fun b => .bl b
  · exact fun i => .int i
  · exact fun x => .str x
  · intro a xs ds nl e _ ih
    exact .tup (hl a _ e nl).2 (hl a _ e nl).1 ih
  · exact fun h _ ih => .tupK h ih
  · intro a xs ds nl e _ ih
    exact .lst (hl a _ e nl).2 (hl a _ e nl).1 ih
  · intro a xs ds nl r _ ih
    obtain ⟨o, e⟩ := rd_some r
    exact .rol (hl a o e nl).2 (rd_keep r fun o e => (hl a o e nl).1) ih
  · exact fun h _ ih => .rolK h ih
  · intro a xs ds nl r _ ih
    obtain ⟨o, e⟩ := rd_some r
    exact .dic (hl a o e nl).2 (rd_keep r fun o e => (hl a o e nl).1) ih
  · intro a dx c vs fs nl e _ ih
    exact .obj (hl a _ e nl).2 (hl a _ e nl).1 ih
  · exact fun h => .hdl (hp _ _ h)
  · exact fun x => .glo x
  · exact fun n => .ty n
  · intro a t c ns vs ds os h0 hk ho _ ih
    exact .ext h0 hk (fun p hp => ⟨(hl _ _ (ho p hp).2 (ho p hp).1).2, (hl _ _ (ho p hp).2 (ho p hp).1).1⟩) ih
  · exact .nil
  · exact fun _ _ h1 h2 => .cons h1 h2
  · exact .nil
  · exact fun _ _ h1 h2 => .cons h1 h2
  · exact .nil
  · exact fun _ _ h1 h2 => .cons h1 h2
theorem VRs.on (hp : ∀ (k : Nat) (a : Addr), io[k]? = some a → io'[k]? = some a) (hl : ∀ a o, H a = some o → ¬ L a → H' a = some o ∧ ¬ L' a) :
    ∀ {vs : List V} {ds : List Dv}, VRs K L io H vs ds → VRs K L' io' H' vs ds
  | _, _, .nil => .nil
  | _, _, .cons h t => .cons (VR.on hp hl h) (VRs.on hp hl t)
theorem Stp.on (s : Stp L io H L' io' H') (sub : ∀ x ∈ io, L x) : (∀ (k : Nat) (a : Addr), io[k]? = some a → io'[k]? = some a) ∧ (∀ a o, H a = some o → ¬ L a → H' a = some o ∧ ¬ L' a) := by
  refine ⟨fun k a h => ?_, fun a o h nl => ⟨s.keep a o h fun z => nl (sub a z), fun z => ?_⟩⟩
  · obtain ⟨m, rfl⟩ := s.pre
    exact io_keep h
  · rcases s.new a z with q | q
    · exact nl q
    · rw [q] at h; cases h
theorem VR.step {v : V} {d : Dv} (h : VR K L io H v d) (s : Stp L io H L' io' H') (sub : ∀ x ∈ io, L x) : VR K L' io' H' v d := VR.on (s.on sub).1 (s.on sub).2 h
theorem VRs.step {v : List V} {d : List Dv} (h : VRs K L io H v d) (s : Stp L io H L' io' H') (sub : ∀ x ∈ io, L x) : VRs K L' io' H' v d := VRs.on (s.on sub).1 (s.on sub).2 h
theorem VR.less {v : V} {d : Dv} (h : VR K L io H v d) (hl : ∀ a, L' a → L a) : VR K L' io H v d := VR.on (fun _ _ h => h) (fun a o e n => ⟨e, fun z => n (hl a z)⟩) h
theorem VRs.less {v : List V} {d : List Dv} (h : VRs K L io H v d) (hl : ∀ a, L' a → L a) : VRs K L' io H v d := VRs.on (fun _ _ h => h) (fun a o e n => ⟨e, fun z => n (hl a z)⟩) h
/-- a volatile thing is changed -/
theorem VR.mut {v : V} {d : Dv} {p : Addr} {o : HO} (h : VR K L io H v d) (hp : L p) : VR K L io (upd H p o) v d :=
  VR.on (fun _ _ h => h) (fun a u e n => ⟨by rw [upd_ne (fun z => n (by rw [z]; exact hp))]; exact e, n⟩) h
theorem VRs.mut {v : List V} {d : List Dv} {p : Addr} {o : HO} (h : VRs K L io H v d) (hp : L p) : VRs K L io (upd H p o) v d :=
  VRs.on (fun _ _ h => h) (fun a u e n => ⟨by rw [upd_ne (fun z => n (by rw [z]; exact hp))]; exact e, n⟩) h
theorem VRs.mono (m : ∀ v d, VR K L io H v d → VR K L' io' H' v d) : ∀ {vs : List V} {ds : List Dv}, VRs K L io H vs ds → VRs K L' io' H' vs ds
  | _, _, .nil => .nil
  | _, _, .cons h t => .cons (m _ _ h) (VRs.mono m t)
theorem VRs.len : ∀ {vs : List V} {ds : List Dv}, VRs K L io H vs ds → vs.length = ds.length
  | _, _, .nil => rfl
  | _, _, .cons _ t => by rw [List.length_cons, List.length_cons, VRs.len t]
theorem VRs.get : ∀ {vs : List V} {ds : List Dv} {i : Nat} {d : Dv}, VRs K L io H vs ds → ds[i]? = some d → ∃ v, vs[i]? = some v ∧ VR K L io H v d
  | _, _, _, _, .nil, e => by simp at e
  | _, _, 0, _, .cons h _, e => by simp at e; subst e; exact ⟨_, rfl, h⟩
  | _, _, i + 1, _, .cons _ t, e => by
    obtain ⟨v, h1, h2⟩ := VRs.get (i := i) t (by simpa using e)
    exact ⟨v, by simpa using h1, h2⟩
theorem VRs.app : ∀ {vs ws : List V} {ds es : List Dv}, VRs K L io H vs ds → VRs K L io H ws es → VRs K L io H (vs ++ ws) (ds ++ es)
  | _, _, _, _, .nil, h => h
  | _, _, _, _, .cons h t, h2 => .cons h (VRs.app t h2)
theorem VRs.set {v : V} {d : Dv} (h : VR K L io H v d) : ∀ {vs : List V} {ds : List Dv} (i : Nat), VRs K L io H vs ds → VRs K L io H (vs.set i v) (ds.set i d)
  | _, _, _, .nil => .nil
  | _, _, 0, .cons _ t => .cons h t
  | _, _, i + 1, .cons q t => .cons q (VRs.set h i t)
theorem VRs.take : ∀ {vs : List V} {ds : List Dv} (n : Nat), VRs K L io H vs ds → VRs K L io H (vs.take n) (ds.take n)
  | _, _, 0, _ => .nil
  | _, _, _ + 1, .nil => .nil
  | _, _, n + 1, .cons h t => .cons h (VRs.take n t)
theorem VRs.drop : ∀ {vs : List V} {ds : List Dv} (n : Nat), VRs K L io H vs ds → VRs K L io H (vs.drop n) (ds.drop n)
  | _, _, 0, h => h
  | _, _, _ + 1, .nil => .nil
  | _, _, n + 1, .cons _ t => VRs.drop n t
end
def PairR {α : Type} (R : V → Dv → Prop) : List (α × V) → List (α × Dv) → Prop := Paired fun p q => p.1 = q.1 ∧ R p.2 q.2
def ObR (K : PySem.W.Frag) (L : Addr → Prop) (io : List Addr) (H : Hp) (a : Addr) : Ob → Prop
  | .lst l => ∃ xs, H a = some (.lst xs) ∧ VRs K L io H xs l
  | .dct l => ∃ kvs, H a = some (.dK kvs) ∧ PairR (VR K L io H) kvs l
  | .ins c fs => ∃ dx vs, H a = some (.ins (He.ga K c) dx vs) ∧ PairR (VR K L io H) vs fs
  | .ext t c l => a ∈ io ∧ ∃ u vs, H a = some u ∧ KindO K t c a vs u ∧ VRs K L io H vs l
theorem PairR.mono {α : Type} {R R' : V → Dv → Prop} (h : ∀ v d, R v d → R' v d) : ∀ {l : List (α × V)} {m : List (α × Dv)}, PairR R l m → PairR R' l m
  | _, _, .nil => .nil
  | _, _, .cons r t => .cons ⟨r.1, h _ _ r.2⟩ (PairR.mono h t)
structure SR (K : PySem.W.Frag) (L : Addr → Prop) (io : List Addr) (H : Hp) (S : Sto) : Prop where
  len : io.length = S.length
  nd : io.Nodup
  sub : ∀ a ∈ io, L a
  dom : ∀ a, L a → H a ≠ none
  obj : ∀ (k : Nat) (a : Addr) (o : Ob), io[k]? = some a → S[k]? = some o → ObR K L io H a o
/-- the state of a frame: entered at L0, io0, H0 -/
structure FR (K : PySem.W.Frag) (L0 : Addr → Prop) (io0 : List Addr) (H0 : Hp) (L : Addr → Prop) (io : List Addr) (H : Hp) (g : St) (e : Env) (S : Sto) : Prop where
  st : SR K L io H S
  len : g.length = e.length
  va : ∀ (i : Nat) (d : Dv), e[i]? = some (.va d) → ∃ v, g[i]? = some (some v) ∧ VR K L io H v d
  own : ∀ (i : Nat) (o : Ob), e[i]? = some (.own o) → ∃ p, g[i]? = some (some (.ref p)) ∧ L p ∧ p ∉ io ∧ H0 p = none ∧ ObR K L io H p o
  inj : ∀ (i j : Nat) (p : Addr), i ≠ j → (∀ d, e[i]? ≠ some (.va d)) → (∀ d, e[j]? ≠ some (.va d)) → e[i]? ≠ some .no → e[j]? ≠ some .no → g[i]? = some (some (.ref p)) → g[j]? ≠ some (some (.ref p))
  en : Stp L0 io0 H0 L io H
  sub0 : ∀ a ∈ io0, L0 a
  dom0 : ∀ a, L0 a → H0 a ≠ none
section
variable {K : PySem.W.Frag} {L0 L L' : Addr → Prop} {io0 io io' : List Addr} {H0 H H' : Hp} {g : St} {e : Env} {S S' : Sto}
theorem FR.ow (f : FR K L0 io0 H0 L io H g e S) (i : Nat) (l : List Dv) (h : e[i]? = some (.ow l)) : ∃ p xs, g[i]? = some (some (.ref p)) ∧ L p ∧ p ∉ io ∧ H0 p = none ∧ H p = some (.lst xs) ∧ VRs K L io H xs l := by
  obtain ⟨p, h1, h2, h3, h4, xs, h5, h6⟩ := f.own i _ h
  exact ⟨p, xs, h1, h2, h3, h4, h5, h6⟩
theorem FR.od (f : FR K L0 io0 H0 L io H g e S) (i : Nat) (l : List (Key × Dv)) (h : e[i]? = some (.od l)) : ∃ p kvs, g[i]? = some (some (.ref p)) ∧ L p ∧ p ∉ io ∧ H0 p = none ∧ H p = some (.dK kvs) ∧ PairR (VR K L io H) kvs l := by
  obtain ⟨p, h1, h2, h3, h4, xs, h5, h6⟩ := f.own i _ h
  exact ⟨p, xs, h1, h2, h3, h4, h5, h6⟩
theorem FR.oi (f : FR K L0 io0 H0 L io H g e S) (i : Nat) (c : Str) (fs : List (Str × Dv)) (h : e[i]? = some (.oi c fs)) : ∃ p dx vs, g[i]? = some (some (.ref p)) ∧ L p ∧ p ∉ io ∧ H0 p = none ∧ H p = some (.ins (He.ga K c) dx vs) ∧ PairR (VR K L io H) vs fs := by
  obtain ⟨p, h1, h2, h3, h4, dx, vs, h5, h6⟩ := f.own i _ h
  exact ⟨p, dx, vs, h1, h2, h3, h4, h5, h6⟩
theorem ObR.has {a : Addr} {o : Ob} (h : ObR K L io H a o) : ∃ u, H a = some u := by
  cases o with
  | lst l => exact ⟨_, h.choose_spec.1⟩
  | dct l => exact ⟨_, h.choose_spec.1⟩
  | ins c fs => exact ⟨_, h.choose_spec.choose_spec.1⟩
  | ext t c l => obtain ⟨_, u, vs, e, _⟩ := h; exact ⟨_, e⟩
theorem ObR.mono {a : Addr} {o : Ob} (h : ObR K L io H a o) (k : ∀ u, H a = some u → H' a = some u) (m : ∀ v d, VR K L io H v d → VR K L' io' H' v d) : ObR K L' io' H' a o := by
  cases o with
  | lst l =>
    obtain ⟨xs, e, r⟩ := h
    exact ⟨xs, k _ e, r.mono m⟩
  | dct l =>
    obtain ⟨xs, e, r⟩ := h
    exact ⟨xs, k _ e, r.mono m⟩
  | ins c fs =>
    obtain ⟨dx, xs, e, r⟩ := h
    exact ⟨dx, xs, k _ e, r.mono m⟩
  | ext t c l =>
    obtain ⟨hi, u, vs, e, r0, r⟩ := h
    obtain ⟨j, hj, he⟩ := List.getElem_of_mem hi
    have q := m (.ref a) (.hdl j) (.hdl (by rw [List.getElem?_eq_getElem hj, he]))
    cases q with
    | hdl q => exact ⟨List.mem_of_getElem? q, u, vs, k _ e, r0, r.mono m⟩
/-- an expression was worked out: the frame stands -/
theorem FR.step (f : FR K L0 io0 H0 L io H g e S) (s : Stp L io H L' io' H') (st : SR K L' io' H' S') : FR K L0 io0 H0 L' io' H' g e S' where
  st := st
  len := f.len
  va := fun i d h => by
    obtain ⟨v, h1, h2⟩ := f.va i d h
    exact ⟨v, h1, h2.step s f.st.sub⟩
  own := fun i o h => by
    obtain ⟨p, h1, h2, h3, h4, h5⟩ := f.own i o h
    obtain ⟨u, h6⟩ := ObR.has (o := o) h5
    refine ⟨p, h1, s.up p h2, fun z => ?_, h4, ObR.mono (o := o) h5 (fun u h => s.keep p u h h3) fun v d r => r.step s f.st.sub⟩
    rcases s.hn p z with q | q
    · exact h3 q
    · rw [q] at h6; cases h6
  inj := f.inj
  en := f.en.trans s f.sub0
  sub0 := f.sub0
  dom0 := f.dom0
end
end DL
namespace DL
open PySem L2
/-- what comes of a piece: a value, an exception of an own class with its fields, or nothing that is known -/
inductive Res (α : Type) where
  | ok (a : α) (S : Sto) | ex (c : Str) (fs : List (Str × Dv)) (S : Sto) | no
abbrev DE := Env → Sto → Res Dv
abbrev DT := Env → Sto → Res Bool
abbrev DA := Env → Sto → Res (List Dv)
def ExR (K : PySem.W.Frag) (L : Addr → Prop) (io : List Addr) (H : Hp) (x : Option Addr) (fs : List (Str × Dv)) : Prop := ∃ a vs, x = some a ∧ ¬ L a ∧ H a = some (.xd vs) ∧ PairR (VR K L io H) vs fs
/-- the end of a piece -/
def Fin {α β : Type} (K : PySem.W.Frag) (W : WX) (R : (Addr → Prop) → List Addr → Hp → β → α → Prop) (g : St) (L : Addr → Prop) (io : List Addr) (H : Hp) (Q : β → Hp → Prop) : Res α → Prop
  | .ok d S' => ∀ (v : β) (H' : Hp) (L' : Addr → Prop) (io' : List Addr), Stp L io H L' io' H' → SR K L' io' H' S' → R L' io' H' v d → Q v H'
  | .ex c fs S' => ∀ (x : Option Addr) (H' : Hp) (L' : Addr → Prop) (io' : List Addr), Stp L io H L' io' H' → SR K L' io' H' S' → ExR K L' io' H' x fs → W (.ref (He.ga K c)) x g H'
  | .no => False
/-- the reading of a piece that works out f -/
def Rdg {α β : Type} (K : PySem.W.Frag) (W : WX) (R : (Addr → Prop) → List Addr → Hp → β → α → Prop) (f : Env → Sto → Res α) : St → Hp → (β → Hp → Prop) → Prop := fun g H Q =>
  ∃ (L0 : Addr → Prop) (io0 : List Addr) (H0 : Hp) (L : Addr → Prop) (io : List Addr) (e : Env) (S : Sto), FR K L0 io0 H0 L io H g e S ∧ Fin K W R g L io H Q (f e S)
def rd (K : PySem.W.Frag) (W : WX) (f : DE) : TE := Rdg K W (VR K) f
def rdt (K : PySem.W.Frag) (W : WX) (f : DT) : TT := Rdg K W (fun _ _ _ (v : Bool) d => v = d) f
def rda (K : PySem.W.Frag) (W : WX) (f : DA) : TA := Rdg K W (VRs K) f
abbrev QE (X : Cx) (W : WX) (e : Expr) (f : DE) : Prop := PE X e (rd X.K W f)
abbrev QT (X : Cx) (W : WX) (e : Expr) (f : DT) : Prop := PT X e (rdt X.K W f)
abbrev QA (X : Cx) (W : WX) (es : List Expr) (f : DA) : Prop := PA X es (rda X.K W f)
theorem pe_imp {X : Cx} {e : Expr} {t t' : TE} (h : PE X e t) (i : ∀ g H Q, t' g H Q → t g H Q) : PE X e t' := ⟨fun pins s g H Q I q => h.run pins s g H Q I (i g H Q q)⟩
theorem pt_imp {X : Cx} {e : Expr} {t t' : TT} (h : PT X e t) (i : ∀ g H Q, t' g H Q → t g H Q) : PT X e t' := ⟨fun pins s g H Q I q => h.run pins s g H Q I (i g H Q q)⟩
theorem pw_imp {X : Cx} {e : Expr} {t t' : TT} (h : PW X e t) (i : ∀ g H Q, t' g H Q → t g H Q) : PW X e t' := ⟨fun w pins s g H Q I q => h.run w pins s g H Q I (i g H Q q)⟩
theorem pa_imp {X : Cx} {e : List Expr} {t t' : TA} (h : PA X e t) (i : ∀ g H Q, t' g H Q → t g H Q) : PA X e t' := ⟨fun p pins s g H Q I q => h.run p pins s g H Q I (i g H Q q)⟩
theorem ps_imp {X : Cx} {e : Stmt} {t t' : TS} (h : PS X e t) (i : ∀ D g H, t' D g H → t D g H) : PS X e t' := ⟨fun pins s g H D I q => h.run pins s g H D I (i D g H q)⟩
theorem pss_imp {X : Cx} {e : List Stmt} {t t' : TS} (h : PSs X e t) (i : ∀ D g H, t' D g H → t D g H) : PSs X e t' := ⟨fun pins s g H D I q => h.run pins s g H D I (i D g H q)⟩
section
variable {K : PySem.W.Frag} {L L' : Addr → Prop} {io io' : List Addr} {H H' : Hp} {S S' : Sto} {p : Addr} {o : HO}
theorem SR.fresh (s : SR K L io H S) (hp : H p = none) : ¬ L p := fun z => s.dom p z hp
theorem Stp.alloc (hp : H p = none) : Stp L io H L io (upd H p o) := ⟨⟨[], by simp⟩, fun _ h => .inl h, fun _ h => .inl h, fun a u e _ => by rw [upd_ne (ne_of_none e hp)]; exact e, fun _ h => h⟩
theorem SR.alloc (s : SR K L io H S) (hp : H p = none) : SR K L io (upd H p o) S where
  len := s.len
  nd := s.nd
  sub := s.sub
  dom := fun a ha => by
    by_cases e : a = p
    · rw [e, upd_same]; exact fun z => nomatch z
    · rw [upd_ne e]; exact s.dom a ha
  obj := fun k a ob h1 h2 => (s.obj k a ob h1 h2).mono (fun u e => by rw [upd_ne (ne_of_none e hp)]; exact e) fun v d r => r.step (Stp.alloc hp) s.sub
theorem VR.newT {xs : List V} {ds : List Dv} (s : SR K L io H S) (hp : H p = none) (r : VRs K L io H xs ds) : VR K L io (upd H p (.tup xs)) (.ref p) (.tup ds) :=
  .tup (s.fresh hp) upd_same (r.step (Stp.alloc hp) s.sub)
theorem VR.newL {xs : List V} {ds : List Dv} (s : SR K L io H S) (hp : H p = none) (r : VRs K L io H xs ds) : VR K L io (upd H p (.lst xs)) (.ref p) (.lst ds) :=
  .lst (s.fresh hp) upd_same (r.step (Stp.alloc hp) s.sub)
end
def asL (S : Sto) : Dv → Option (List Dv)
  | .lst l => some l
  | .rol l => some l
  | .hdl k => match S[k]? with
    | some (.lst l) => some l
    | _ => none
  | _ => none
def asT : Dv → Option (List Dv)
  | .tup l => some l
  | _ => none
section
variable {K : PySem.W.Frag} {L : Addr → Prop} {io : List Addr} {H : Hp} {S : Sto} {v : V} {d : Dv} {l : List Dv}
theorem asL_ok (s : SR K L io H S) (r : VR K L io H v d) (h : asL S d = some l) : ∃ a xs, v = .ref a ∧ SqL K H a xs ∧ VRs K L io H xs l := by
  cases r with
  | lst nl e t => cases h; exact ⟨_, _, rfl, SqL.of e, t⟩
  | rol nl e t => cases h; exact ⟨_, _, rfl, .inl e, t⟩
  | rolK e t => cases h; exact ⟨_, _, rfl, e H, t⟩
  | hdl hk =>
    rename_i a k
    cases q : S[k]? with
    | none => simp [asL, q] at h
    | some o =>
      cases o with
      | lst l' =>
        simp [asL, q] at h
        subst h
        obtain ⟨xs, e, t⟩ := s.obj k a _ hk q
        exact ⟨a, xs, rfl, SqL.of e, t⟩
      | _ => simp [asL, q] at h
  | _ => cases h
theorem asT_ok (r : VR K L io H v d) (h : asT d = some l) : ∃ a xs, v = .ref a ∧ SqT K H a xs ∧ VRs K L io H xs l := by
  cases r with
  | tup nl e t => cases h; exact ⟨_, _, rfl, SqT.of e, t⟩
  | tupK e t => cases h; exact ⟨_, _, rfl, e.1 H, t⟩
  | _ => cases h
end
def vwO : Ob → Dv
  | .lst l => .lst l
  | .dct l => .dic l
  | .ins c fs => .obj c fs
  | .ext _ _ _ => .ext 0 "" [] []
def VX (K : PySem.W.Frag) (L : Addr → Prop) (io : List Addr) (H : Hp) (v : V) (d : Dv) : Prop := VR K L io H v d ∨ ∃ p o, v = .ref p ∧ d = vwO o ∧ p ∉ io ∧ ObR K L io H p o
def isV : Dv → Bool
  | .lst _ => true
  | .dic _ => true
  | .obj _ _ => true
  | .ext 0 _ _ _ => true
  | _ => false
section
variable {K : PySem.W.Frag} {L L' : Addr → Prop} {io io' : List Addr} {H H' : Hp} {S : Sto} {v : V} {d : Dv} {l : List Dv}
theorem VX.vr (r : VX K L io H v d) (h : isV d = false) : VR K L io H v d := by
  rcases r with r | ⟨p, o, rfl, rfl, _, _⟩
  · exact r
  · cases o <;> cases h
theorem VX.step (r : VX K L io H v d) (s : Stp L io H L' io' H') (sub : ∀ x ∈ io, L x) : VX K L' io' H' v d := by
  rcases r with r | ⟨p, o, rfl, rfl, np, ob⟩
  · exact .inl (r.step s sub)
  · obtain ⟨u, hu⟩ := ob.has
    refine .inr ⟨p, o, rfl, rfl, fun z => ?_, ob.mono (fun u e => s.keep p u e np) fun v d r => r.step s sub⟩
    rcases s.hn p z with q | q
    · exact np q
    · rw [q] at hu; cases hu
theorem asL_x (s : SR K L io H S) (r : VX K L io H v d) (h : asL S d = some l) : ∃ a xs, v = .ref a ∧ SqL K H a xs ∧ VRs K L io H xs l := by
  rcases r with r | ⟨p, o, rfl, rfl, np, ob⟩
  · exact asL_ok s r h
  · cases o with
    | lst m => cases h; obtain ⟨xs, e, t⟩ := ob; exact ⟨p, xs, rfl, SqL.of e, t⟩
    | _ => cases h
theorem VX.lst (r : VX K L io H v (.lst l)) : ∃ p xs, v = .ref p ∧ H p = some (.lst xs) ∧ VRs K L io H xs l := by
  rcases r with r | ⟨p, o, rfl, e, np, ob⟩
  · cases r with
    | lst n h t => exact ⟨_, _, rfl, h, t⟩
  · cases o with
    | lst m => cases e; obtain ⟨xs, e, t⟩ := ob; exact ⟨p, xs, rfl, e, t⟩
    | _ => cases e
theorem asT_x (r : VX K L io H v d) (h : asT d = some l) : ∃ a xs, v = .ref a ∧ SqT K H a xs ∧ VRs K L io H xs l := asT_ok (r.vr (by cases d <;> first | rfl | cases h)) h
inductive VXs (K : PySem.W.Frag) (L : Addr → Prop) (io : List Addr) (H : Hp) : List V → List Dv → Prop
  | nil : VXs K L io H [] []
  | cons {v : V} {vs : List V} {d : Dv} {ds : List Dv} : VX K L io H v d → VXs K L io H vs ds → VXs K L io H (v :: vs) (d :: ds)
theorem VRs.x : ∀ {vs : List V} {l : List Dv}, VRs K L io H vs l → VXs K L io H vs l
  | _, _, .nil => .nil
  | _, _, .cons h t => .cons (.inl h) t.x
end
abbrev QX (X : Cx) (W : WX) (e : Expr) (f : DE) : Prop := PE X e (Rdg X.K W (VX X.K) f)
abbrev QXs (X : Cx) (W : WX) (es : List Expr) (f : DA) : Prop := PA X es (Rdg X.K W (VXs X.K) f)
def ofO {α : Type} : Option (α × Sto) → Res α
  | some (a, S) => .ok a S
  | none => .no
def bnd {α β : Type} (x : Res α) (k : α → Sto → Res β) : Res β := match x with
  | .ok a S => k a S
  | .ex c fs S => .ex c fs S
  | .no => .no
@[simp] theorem bnd_ok {α β : Type} (a : α) (S : Sto) (k : α → Sto → Res β) : bnd (.ok a S) k = k a S := rfl
@[simp] theorem ofO_some {α : Type} (a : α) (S : Sto) : ofO (some (a, S)) = .ok a S := rfl
section
variable {X : Cx} {W : WX} {pos : Pos}
def eVar (i : Nat) : DE := fun e S => match e[i]? with
  | some (.va d) => .ok d S
  | _ => .no
def eC (d : Dv) : DE := fun _ S => .ok d S
theorem rd_var {K : PySem.W.Frag} {i : Nat} {g : St} {H : Hp} {Q : VK} (h : rd K W (eVar i) g H Q) : tVar i g H Q := by
  obtain ⟨L0, io0, H0, L, io, e, S, fr, h⟩ := h
  cases q : e[i]? with
  | none => simp only [eVar, q] at h; exact h.elim
  | some sl =>
    cases sl with
    | va d' =>
      simp only [eVar, q] at h
      obtain ⟨v, h1, h2⟩ := fr.va i _ q
      exact ⟨v, h1, h v H L io (Stp.refl ..) fr.st h2⟩
    | _ => simp only [eVar, q] at h; exact h.elim
theorem qe_var (i : Nat) {x : Str} (hN : X.N[i]? = some x := by rfl) (hv : Vis X.env.scope x := by first | exact Or.inl rfl | exact Or.inr (Or.inl rfl) | exact Or.inr (Or.inr rfl)) (hd : (x == ("__debug__" : Str)) = false := by decide)
    (hcd : (x == ("__classdict__" : Str)) = false := by decide) : QE X W (.Name x pos) (eVar i) := pe_imp (pe_var hN hv hd hcd) fun _ _ _ h => rd_var h
theorem rd_C {K : PySem.W.Frag} {d : Dv} {v : V} {g : St} {H : Hp} {Q : VK} (r : ∀ L io, VR K L io H v d) (h : rd K W (eC d) g H Q) : tC v g H Q := by
  obtain ⟨L0, io0, H0, L, io, e, S, fr, h⟩ := h
  exact h v H L io (Stp.refl ..) fr.st (r _ _)
theorem qe_int {i : Int} {j} : QE X W (.Constant (.int i) j pos) (eC (.int i)) := pe_imp pe_int fun _ _ _ h => rd_C (fun _ _ => .int i) h
theorem qe_bl {b : Bool} {j} : QE X W (.Constant (.bool b) j pos) (eC (.bl b)) := pe_imp pe_bl fun _ _ _ h => rd_C (fun _ _ => .bl b) h
theorem qe_non {j} : QE X W (.Constant .none j pos) (eC .non) := pe_imp pe_non fun _ _ _ h => rd_C (fun _ _ => .non) h
theorem qe_str {x : Str} {j} : QE X W (.Constant (.str x) j pos) (eC (.str x)) := pe_imp pe_str fun _ _ _ h => rd_C (fun _ _ => .str x) h
/-- a module's name: a constant, a def, a class -/
theorem qe_glob {x : Str} {v : V} {d : Dv} {u : Value} (hm : X.mg x = some u) (r : RelV v u) (hr : ∀ L io H, VR X.K L io H v d) (hg : Gl X x := by rfl) (hd : (x == ("__debug__" : Str)) = false := by decide) : QE X W (.Name x pos) (eC d) :=
  pe_imp (pe_glob hg hm r hd) fun _ _ _ h => rd_C (fun _ _ => hr _ _ _) h
/-- a built-in class as a value -/
theorem qe_ty {x : Str} {n : String} (hm : X.mg x = none) (hv : bootBuiltins x = some (.type n)) (hg : Gl X x := by rfl) (hn : x ≠ "__name__" := by decide) (hd : (x == ("__debug__" : Str)) = false := by decide) : QE X W (.Name x pos) (eC (.ty n)) :=
  pe_imp (pe_bltn (v := .ty n) hg hm hv rfl hn hd) fun _ _ _ h => rd_C (fun _ _ => .ty n) h
end
section
variable {K : PySem.W.Frag} {W : WX} {α α' β β' γ : Type} {R : (Addr → Prop) → List Addr → Hp → β → α → Prop} {R' : (Addr → Prop) → List Addr → Hp → β' → α' → Prop}
theorem Fin.later {g : St} {L L1 : Addr → Prop} {io io1 : List Addr} {H H1 : Hp} {Q : β' → Hp → Prop} {r : Res α'} (h : Fin K W R' g L io H Q r) (s : Stp L io H L1 io1 H1) (sub : ∀ x ∈ io, L x) : Fin K W R' g L1 io1 H1 Q r := by
  cases r with
  | ok d S' => exact fun v H' L' io' s2 sr r2 => h v H' L' io' (s.trans s2 sub) sr r2
  | ex c fs S' => exact fun v H' L' io' s2 sr r2 => h v H' L' io' (s.trans s2 sub) sr r2
  | no => exact h
/-- the next part of a piece is worked out; the rest goes on -/
theorem Fin.bind {f : Env → Sto → Res α} {k : α → Sto → Res α'} {g : St} {L0 L : Addr → Prop} {io0 io : List Addr} {H0 H : Hp} {e : Env} {S : Sto} {Q : β' → Hp → Prop} {P : β → Hp → Prop}
    (fr : FR K L0 io0 H0 L io H g e S) (h : Fin K W R' g L io H Q (bnd (f e S) k))
    (n : ∀ (L1 : Addr → Prop) (io1 : List Addr) (H1 : Hp) (S1 : Sto) (a : α) (v : β), Stp L io H L1 io1 H1 → FR K L0 io0 H0 L1 io1 H1 g e S1 → R L1 io1 H1 v a → Fin K W R' g L1 io1 H1 Q (k a S1) → P v H1) : Rdg K W R f g H P := by
  refine ⟨L0, io0, H0, L, io, e, S, fr, ?_⟩
  cases hf : f e S with
  | ok a S1 =>
    rw [hf] at h
    intro v H1 L1 io1 s1 sr1 r1
    exact n L1 io1 H1 S1 a v s1 (fr.step s1 sr1) r1 (Fin.later (L := L) (io := io) (H := H) h s1 fr.st.sub)
  | ex c fs S1 =>
    rw [hf] at h
    exact h
  | no =>
    rw [hf] at h
    exact h
/-- the first part of a piece -/
theorem Rdg.bind {f : Env → Sto → Res α} {k : Env → α → Sto → Res α'} {g : St} {H : Hp} {Q : β' → Hp → Prop} {P : β → Hp → Prop}
    (h : Rdg K W R' (fun e S => bnd (f e S) (k e)) g H Q)
    (n : ∀ (L0 : Addr → Prop) (io0 : List Addr) (H0 : Hp) (L : Addr → Prop) (io : List Addr) (H1 : Hp) (e : Env) (S : Sto) (a : α) (v : β), FR K L0 io0 H0 L io H1 g e S → R L io H1 v a → Fin K W R' g L io H1 Q (k e a S) → P v H1) : Rdg K W R f g H P := by
  obtain ⟨L0, io0, H0, L, io, e, S, fr, h⟩ := h
  exact Fin.bind (k := k e) fr h fun L1 io1 H1 S1 a v _ fr1 r1 q => n L0 io0 H0 L1 io1 H1 e S1 a v fr1 r1 q
theorem Fin.ok1 {g : St} {L : Addr → Prop} {io : List Addr} {H : Hp} {Q : β' → Hp → Prop} {d : α'} {S : Sto} (h : Fin K W R' g L io H Q (.ok d S)) (sr : SR K L io H S) {v : β'} (r : R' L io H v d) : Q v H := h v H L io (Stp.refl ..) sr r
theorem Fin.rdg {f : Env → Sto → Res α'} {g : St} {L0 L : Addr → Prop} {io0 io : List Addr} {H0 H : Hp} {Q : β' → Hp → Prop} {e : Env} {S : Sto} (fr : FR K L0 io0 H0 L io H g e S) (h : Fin K W R' g L io H Q (f e S)) : Rdg K W R' f g H Q :=
  ⟨L0, io0, H0, L, io, e, S, fr, h⟩
end
theorem Rdg.weaken {K : PySem.W.Frag} {W : WX} {α β : Type} {R R' : (Addr → Prop) → List Addr → Hp → β → α → Prop} (h : ∀ L io H v d, R' L io H v d → R L io H v d) {f : Env → Sto → Res α} {g : St} {H : Hp} {Q : β → Hp → Prop} (q : Rdg K W R f g H Q) : Rdg K W R' f g H Q := by
  obtain ⟨L0, io0, H0, L, io, e, S, fr, q⟩ := q
  refine ⟨L0, io0, H0, L, io, e, S, fr, ?_⟩
  cases hf : f e S with
  | ok d S' => rw [hf] at q; exact fun v H' L' io' s sr r => q v H' L' io' s sr (h _ _ _ _ _ r)
  | ex c fs S' => rw [hf] at q; exact q
  | no => rw [hf] at q; exact q
/-- r serves what h gives -/
def OpS (K : PySem.W.Frag) (r : R2) (h : Sto → Dv → Dv → Option (Dv × Sto)) : Prop :=
  ∀ (L : Addr → Prop) (io : List Addr) (H : Hp) (S : Sto) (x y : V) (a b d : Dv) (S' : Sto) (Q : VK), SR K L io H S → VX K L io H x a → VX K L io H y b → h S a b = some (d, S') →
    (∀ (v : V) (H' : Hp) (L' : Addr → Prop) (io' : List Addr), Stp L io H L' io' H' → SR K L' io' H' S' → VR K L' io' H' v d → Q v H') → r x y H Q
theorem Fin.opt {α' β' : Type} {K : PySem.W.Frag} {W : WX} {R' : (Addr → Prop) → List Addr → Hp → β' → α' → Prop} {g : St} {L : Addr → Prop} {io : List Addr} {H : Hp} {Q : β' → Hp → Prop} {o : Option (α' × Sto)} (h : Fin K W R' g L io H Q (ofO o)) :
    ∃ d S', o = some (d, S') ∧ ∀ (v : β') (H' : Hp) (L' : Addr → Prop) (io' : List Addr), Stp L io H L' io' H' → SR K L' io' H' S' → R' L' io' H' v d → Q v H' := by
  cases o with
  | none => exact h.elim
  | some p => exact ⟨p.1, p.2, rfl, h⟩
def eBin (h : Sto → Dv → Dv → Option (Dv × Sto)) (f1 f2 : DE) : DE := fun e S => bnd (f1 e S) fun a S1 => bnd (f2 e S1) fun b S2 => ofO (h S2 a b)
theorem rd_bin {K : PySem.W.Frag} {W : WX} {r : R2} {h : Sto → Dv → Dv → Option (Dv × Sto)} {f1 f2 : DE} (ho : OpS K r h) {g : St} {H : Hp} {Q : VK} (q : rd K W (eBin h f1 f2) g H Q) : tOp r (Rdg K W (VX K) f1) (Rdg K W (VX K) f2) g H Q := by
  refine Rdg.bind (R := VX K) (k := fun e a S1 => bnd (f2 e S1) fun b S2 => ofO (h S2 a b)) q fun L0 io0 H0 L io H1 e S a v fr ra q => ?_
  refine Fin.bind (R := VX K) (k := fun b S2 => ofO (h S2 a b)) fr q fun L2 io2 H2 S2 b w s2 fr2 rb q => ?_
  obtain ⟨d, S3, h1, h2⟩ := q.opt
  exact ho L2 io2 H2 S2 v w a b d S3 Q fr2.st (ra.step s2 fr.st.sub) rb h1 h2
section
variable {X : Cx} {W : WX} {pos : Pos} {a b : Expr} {f f1 f2 : DE} {r : R2} {h : Sto → Dv → Dv → Option (Dv × Sto)}
theorem qx (ha : QE X W a f) : QX X W a f := pe_imp ha fun g H Q q => q.weaken fun _ _ _ _ _ r => .inl r
theorem qe_op {op : Operator} (ho : OpR X (binaryOp op) r) (hs : OpS X.K r h) (ha : QX X W a f1) (hb : QX X W b f2) : QE X W (.BinOp a op b pos) (eBin h f1 f2) := pe_imp (pe_op ho ha hb) fun _ _ _ q => rd_bin hs q
theorem qe_cmp {op : CmpOp} (ho : OpR X (compareOp op) r) (hs : OpS X.K r h) (ha : QX X W a f1) (hb : QX X W b f2) (hm : behindInMarks op b = false := by first | exact nomark _ | rfl) : QE X W (.Compare a [op] [b] pos) (eBin h f1 f2) := pe_imp (pe_cmpR ho ha hb hm) fun _ _ _ q => rd_bin hs q
/-- an expression whose value is a truth, as a test -/
def blD : Dv → Sto → Res Bool
  | .bl b, S => .ok b S
  | _, _ => .no
def tVal (f : DE) : DT := fun e S => bnd (f e S) blD
theorem rd_tval {K : PySem.W.Frag} {f : DE} {g : St} {H : Hp} {Q : Bool → Hp → Prop} (q : rdt K W (tVal f) g H Q) : tTest (rd K W f) g H Q := by
  refine Rdg.bind (R := VR K) (k := fun _ => blD) q fun L0 io0 H0 L io H1 e S a v fr ra q => ?_
  cases ra with
  | bl b => exact ⟨_, rfl, q.ok1 fr.st rfl⟩
  | _ => exact q.elim
theorem qt_cmp {op : CmpOp} (ho : OpR X (compareOp op) r) (hs : OpS X.K r h) (ha : QX X W a f1) (hb : QX X W b f2) (hm : behindInMarks op b = false := by first | exact nomark _ | rfl) : QT X W (.Compare a [op] [b] pos) (tVal (eBin h f1 f2)) :=
  pt_imp (pt_cmpR ho ha hb hm) fun g H Q q => by
    have z := rd_tval q
    exact (show tTest (tOp r (Rdg X.K W (VX X.K) f1) (Rdg X.K W (VX X.K) f2)) g H Q from rd_bin hs z)
end
end DL
namespace DL
open PySem L2
def pu2 (h : Dv → Dv → Option Dv) : Sto → Dv → Dv → Option (Dv × Sto) := fun S a b => (h a b).map fun d => (d, S)
theorem pu2_ok {h : Dv → Dv → Option Dv} {S S' : Sto} {a b d : Dv} (e : pu2 h S a b = some (d, S')) : h a b = some d ∧ S' = S := by
  unfold pu2 at e
  cases q : h a b with
  | none => rw [q] at e; cases e
  | some z => rw [q] at e; cases e; exact ⟨rfl, rfl⟩
def iop (g : Int → Int → Option Dv) : Dv → Dv → Option Dv
  | .int i, .int j => g i j
  | _, _ => none
/-- an operator of two ints -/
theorem ops_int {K : PySem.W.Frag} {C : Int → Int → Prop} {gv : Int → Int → V} {g : Int → Int → Option Dv} (hg : ∀ i j d, g i j = some d → C i j ∧ ∀ L io H, VR K L io H (gv i j) d) : OpS K (rI C gv) (pu2 (iop g)) := by
  intro L io H S x y a b d S' Q sr ra rb e0 q
  obtain ⟨e, rfl⟩ := pu2_ok e0
  clear e0
  cases a with
  | int i =>
    cases b with
    | int j =>
      cases ra.vr rfl; cases rb.vr rfl
      obtain ⟨hc, r⟩ := hg i j d e
      exact ⟨i, j, rfl, rfl, hc, q _ H L io (Stp.refl ..) sr (r _ _ _)⟩
    | _ => cases e
  | _ => cases e
theorem ops_int0 {K : PySem.W.Frag} {gv : Int → Int → V} {g : Int → Int → Dv} (hg : ∀ i j L io H, VR K L io H (gv i j) (g i j)) : OpS K (rI0 gv) (pu2 (iop fun i j => some (g i j))) := by
  intro L io H S x y a b d S' Q sr ra rb e0 q
  obtain ⟨e, rfl⟩ := pu2_ok e0
  clear e0
  cases a with
  | int i =>
    cases b with
    | int j =>
      cases ra.vr rfl; cases rb.vr rfl
      cases e
      exact ⟨i, j, rfl, rfl, q _ H L io (Stp.refl ..) sr (hg _ _ _ _ _)⟩
    | _ => cases e
  | _ => cases e
def subD : Dv → Dv → Option Dv := iop fun i j => some (.int (i - j))
def mulD : Dv → Dv → Option Dv := iop fun i j => if (-(2 ^ 64) < i ∧ i < 2 ^ 64) ∨ (-(2 ^ 64) < j ∧ j < 2 ^ 64) then some (.int (i * j)) else none
def modD : Dv → Dv → Option Dv := iop fun i j => if 0 < j then some (.int (i % j)) else none
def fdivD : Dv → Dv → Option Dv := iop fun i j => if 0 < j ∧ j < 1073741824 then some (.int (i / j)) else none
def ltD : Dv → Dv → Option Dv := iop fun i j => some (.bl (decide (i < j)))
def leD : Dv → Dv → Option Dv := iop fun i j => some (.bl (decide (i ≤ j)))
def gtD : Dv → Dv → Option Dv := iop fun i j => some (.bl (decide (j < i)))
def geD : Dv → Dv → Option Dv := iop fun i j => some (.bl (decide (j ≤ i)))
section
variable {X : Cx} {W : WX} {pos : Pos} {a b : Expr} {f1 f2 : DE}
theorem qe_mul (ha : QX X W a f1) (hb : QX X W b f2) : QE X W (.BinOp a .Mult b pos) (eBin (pu2 mulD) f1 f2) := qe_op op_mul (ops_int fun i j d e => by
  split at e
  · rename_i h; cases e; exact ⟨h, fun _ _ _ => .int _⟩
  · cases e) ha hb
theorem qe_mod (ha : QX X W a f1) (hb : QX X W b f2) : QE X W (.BinOp a .Mod b pos) (eBin (pu2 modD) f1 f2) := qe_op op_mod (ops_int fun i j d e => by
  split at e
  · rename_i h; cases e; exact ⟨h, fun _ _ _ => .int _⟩
  · cases e) ha hb
theorem qe_fdiv (ha : QX X W a f1) (hb : QX X W b f2) : QE X W (.BinOp a .FloorDiv b pos) (eBin (pu2 fdivD) f1 f2) := qe_op op_fdiv (ops_int fun i j d e => by
  split at e
  · rename_i h; cases e; exact ⟨h, fun _ _ _ => .int _⟩
  · cases e) ha hb
theorem qt_lt (ha : QX X W a f1) (hb : QX X W b f2) : QT X W (.Compare a [.Lt] [b] pos) (tVal (eBin (pu2 ltD) f1 f2)) := qt_cmp op_lt (ops_int0 fun _ _ _ _ _ => .bl _) ha hb
theorem qt_gt (ha : QX X W a f1) (hb : QX X W b f2) : QT X W (.Compare a [.Gt] [b] pos) (tVal (eBin (pu2 gtD) f1 f2)) := qt_cmp op_gt (ops_int0 fun _ _ _ _ _ => .bl _) ha hb
theorem qt_ge (ha : QX X W a f1) (hb : QX X W b f2) : QT X W (.Compare a [.GtE] [b] pos) (tVal (eBin (pu2 geD) f1 f2)) := qt_cmp op_ge (ops_int0 fun _ _ _ _ _ => .bl _) ha hb
end
def rAddA (K : PySem.W.Frag) : R2 := fun x y H Q => rI0 (fun i j => .int (i + j)) x y H Q ∨ (∃ i j, x = .str i ∧ y = .str j ∧ i.length + j.length ≤ sizeLine ∧ Q (.str (i ++ j)) H) ∨ rCatA K x y H Q ∨ rCat x y H Q
theorem op_addA {X : Cx} : OpR X (binaryOp .Add) (rAddA X.K) := op_add.or (op_add_str.or (op_catA.or op_cat))
def asH (S : Sto) : Dv → Option (List Dv)
  | .lst l => some l
  | .hdl k => match S[k]? with
    | some (.lst l) => some l
    | _ => none
  | _ => none
theorem asH_x {K : PySem.W.Frag} {L : Addr → Prop} {io : List Addr} {H : Hp} {S : Sto} {v : V} {d : Dv} {l : List Dv} (s : SR K L io H S) (r : VX K L io H v d) (h : asH S d = some l) : ∃ a xs, v = .ref a ∧ H a = some (.lst xs) ∧ VRs K L io H xs l := by
  cases d with
  | lst m => cases h; exact r.lst
  | hdl k =>
    cases q : S[k]? with
    | none => simp [asH, q] at h
    | some o =>
      cases o with
      | lst m =>
        simp [asH, q] at h
        subst h
        cases r.vr rfl with
        | hdl hk =>
          obtain ⟨xs, e, t⟩ := s.obj k _ _ hk q
          exact ⟨_, xs, rfl, e, t⟩
      | _ => simp [asH, q] at h
  | _ => cases h
def addD : Sto → Dv → Dv → Option (Dv × Sto)
  | S, .int i, .int j => some (.int (i + j), S)
  | S, .str x, .str y => if x.length + y.length ≤ sizeLine then some (.str (x ++ y), S) else none
  | S, .tup l, .tup m => if l.length + m.length ≤ sizeLine then some (.tup (l ++ m), S) else none
  | S, .lst l, b => (asH S b).bind fun m => if l.length + m.length ≤ sizeLine then some (.lst (l ++ m), S) else none
  | S, .hdl k, b => (asH S (.hdl k)).bind fun l => (asH S b).bind fun m => if l.length + m.length ≤ sizeLine then some (.lst (l ++ m), S) else none
  | _, _, _ => none
theorem VR.tupS {K : PySem.W.Frag} {L : Addr → Prop} {io : List Addr} {H : Hp} {v : V} {l : List Dv} (r : VR K L io H v (.tup l)) : ∃ a xs, v = .ref a ∧ SqT K H a xs ∧ VRs K L io H xs l := asT_ok r rfl
theorem VRs.nil_iff {K : PySem.W.Frag} {L : Addr → Prop} {io : List Addr} {H : Hp} {vs : List V} {l : List Dv} (r : VRs K L io H vs l) : vs = [] ↔ l = [] := by
  cases r <;> simp
theorem ops_add {K : PySem.W.Frag} : OpS K (rAddA K) addD := by
  intro L io H S x y a b d S' Q sr ra rb e q
  have lst : ∀ l, asH S a = some l → ((asH S b).bind fun m => if l.length + m.length ≤ sizeLine then some (Dv.lst (l ++ m), S) else none) = some (d, S') → rAddA K x y H Q := by
    intro l h1 e
    cases h : asH S b with
    | none => rw [h] at e; cases e
    | some m =>
      rw [h] at e
      simp only [Option.bind_some] at e
      split at e
      · rename_i hl
        cases e
        obtain ⟨p1, xs, rfl, e1, r1⟩ := asH_x sr ra h1
        obtain ⟨p2, ys, rfl, e2, r2⟩ := asH_x sr rb h
        exact .inr (.inr (.inr ⟨_, _, _, _, rfl, rfl, e1, e2, by rw [r1.len, r2.len]; exact hl, fun p hp => q _ _ L io (Stp.alloc hp) (sr.alloc hp) (VR.newL sr hp (r1.app r2))⟩))
      · cases e
  cases a with
  | int i =>
    cases b with
    | int j =>
      cases e; cases ra.vr rfl; cases rb.vr rfl
      exact .inl ⟨i, j, rfl, rfl, q _ H L io (Stp.refl ..) sr (.int _)⟩
    | _ => cases e
  | str i =>
    cases b with
    | str j =>
      simp only [addD] at e
      split at e
      · rename_i h
        cases e; cases ra.vr rfl; cases rb.vr rfl
        exact .inr (.inl ⟨i, j, rfl, rfl, h, q _ H L io (Stp.refl ..) sr (.str _)⟩)
      · cases e
    | _ => cases e
  | tup l =>
    cases b with
    | tup m =>
      simp only [addD] at e
      split at e
      · rename_i h
        cases e
        obtain ⟨p1, xs, rfl, s1, r1⟩ := (ra.vr rfl).tupS
        obtain ⟨p2, ys, rfl, s2, r2⟩ := (rb.vr rfl).tupS
        refine .inr (.inr (.inl ⟨p1, p2, xs, ys, rfl, rfl, s1, s2, by rw [r1.len, r2.len]; exact h, fun h0 => ?_, fun h0 h1 => ?_, fun _ _ p hp => ?_⟩))
        · have : l = [] := r1.nil_iff.mp h0
          subst this
          exact q _ H L io (Stp.refl ..) sr (rb.vr rfl)
        · have : m = [] := r2.nil_iff.mp h1
          subst this
          rw [List.append_nil] at q
          exact q _ H L io (Stp.refl ..) sr (ra.vr rfl)
        · exact q _ _ L io (Stp.alloc hp) (sr.alloc hp) (VR.newT sr hp (r1.app r2))
      · cases e
    | _ => cases e
  | lst l =>
    have e' : ((asH S b).bind fun m => if l.length + m.length ≤ sizeLine then some (Dv.lst (l ++ m), S) else none) = some (d, S') := by cases b <;> exact e
    exact lst l rfl e'
  | hdl k =>
    have e' : ((asH S (.hdl k)).bind fun l => (asH S b).bind fun m => if l.length + m.length ≤ sizeLine then some (Dv.lst (l ++ m), S) else none) = some (d, S') := by cases b <;> exact e
    cases h : asH S (.hdl k) with
    | none => rw [h] at e'; cases e'
    | some l => rw [h] at e'; exact lst l h e'
  | _ => cases e
theorem qe_add {X : Cx} {W : WX} {pos : Pos} {a b : Expr} {f1 f2 : DE} (ha : QX X W a f1) (hb : QX X W b f2) : QE X W (.BinOp a .Add b pos) (eBin addD f1 f2) := qe_op op_addA ops_add ha hb
mutual
def toP : Dv → Option PyData
  | .non => some .none
  | .bl b => some (.bool b)
  | .int i => some (.int i)
  | .str x => some (.str x)
  | .tup l => (toPs l).map .tuple
  | .lst l => (toPs l).map .list
  | .rol l => (toPs l).map .list
  | .dic _ => none
  | .obj _ _ => none
  | .hdl _ => none
  | .glo _ => none
  | .ty _ => none
  | .ext _ _ _ _ => none
def toPs : List Dv → Option (List PyData)
  | [] => some []
  | d :: l => (toP d).bind fun p => (toPs l).map fun ps => p :: ps
end
/-- handles as they stand now -/
def deref : Nat → Sto → Dv → Dv
  | 0, _, d => d
  | n + 1, S, .hdl k => match S[k]? with
    | some (.lst l) => .lst (l.map (deref n S))
    | some (.dct l) => .dic (l.map fun q => (q.1, deref n S q.2))
    | _ => .hdl k
  | n + 1, S, .tup l => .tup (l.map (deref n S))
  | n + 1, S, .lst l => .lst (l.map (deref n S))
  | n + 1, S, .rol l => .rol (l.map (deref n S))
  | n + 1, S, .dic l => .dic (l.map fun q => (q.1, deref n S q.2))
  | _ + 1, _, d => d
section
variable {K : PySem.W.Frag} {L : Addr → Prop} {io : List Addr} {H : Hp} {S : Sto}
mutual
theorem toP_ok : ∀ (d : Dv) (v : V) (p : PyData), VR K L io H v d → toP d = some p → Dp K H v p
  | .non, v, p, r, e => by cases r; cases e; exact .non
  | .bl b, v, p, r, e => by cases r; cases e; exact .bl b
  | .int b, v, p, r, e => by cases r; cases e; exact .int b
  | .str b, v, p, r, e => by cases r; cases e; exact .str b
  | .tup l, v, p, r, e => by
    obtain ⟨a, xs, rfl, s, t⟩ := r.tupS
    simp only [toP] at e
    cases q : toPs l with
    | none => rw [q] at e; cases e
    | some ps => rw [q] at e; cases e; exact .tup s (toPs_ok l xs ps t q)
  | .lst l, v, p, r, e => by
    simp only [toP] at e
    cases q : toPs l with
    | none => rw [q] at e; cases e
    | some ps =>
      rw [q] at e; cases e
      cases r with
      | lst n h t => exact .lst (SqL.of h) (toPs_ok l _ ps t q)
  | .rol l, v, p, r, e => by
    simp only [toP] at e
    cases q : toPs l with
    | none => rw [q] at e; cases e
    | some ps =>
      rw [q] at e; cases e
      cases r with
      | rol n h t => exact .lst (.inl h) (toPs_ok l _ ps t q)
      | rolK h t => exact .lst (h H) (toPs_ok l _ ps t q)
  | .dic k, v, p, r, e => by simp [toP] at e
  | .obj c k, v, p, r, e => by simp [toP] at e
  | .hdl k, v, p, r, e => by simp [toP] at e
  | .glo k, v, p, r, e => by simp [toP] at e
  | .ty k, v, p, r, e => by simp [toP] at e
  | .ext _ _ _ _, v, p, r, e => by simp [toP] at e
theorem toPs_ok : ∀ (l : List Dv) (vs : List V) (ps : List PyData), VRs K L io H vs l → toPs l = some ps → DpAll K H vs ps
  | [], vs, ps, r, e => by cases r; simp [toPs] at e; subst e; exact .nil
  | d :: l, vs, ps, r, e => by
    cases r with
    | cons h t =>
      simp only [toPs] at e
      cases q : toP d with
      | none => rw [q] at e; cases e
      | some p =>
        rw [q] at e
        cases q2 : toPs l with
        | none => rw [q2] at e; cases e
        | some ps' =>
          rw [q2] at e
          cases e
          exact .cons (toP_ok d _ p h q) (toPs_ok l _ ps' t q2)
end
theorem deref_all (n : Nat) (ih : ∀ (d : Dv) (v : V) (p : PyData), VR K L io H v d → toP (deref n S d) = some p → Dp K H v p) : ∀ (l : List Dv) (vs : List V) (ps : List PyData), VRs K L io H vs l → toPs (l.map (deref n S)) = some ps → DpAll K H vs ps
  | [], vs, ps, r, e => by cases r; simp [toPs] at e; subst e; exact .nil
  | d :: l, vs, ps, r, e => by
    cases r with
    | cons h t =>
      simp only [toPs, List.map_cons] at e
      cases q : toP (deref n S d) with
      | none => rw [q] at e; cases e
      | some p =>
        rw [q] at e
        cases q2 : toPs (l.map (deref n S)) with
        | none => rw [q2] at e; cases e
        | some ps' =>
          rw [q2] at e
          cases e
          exact .cons (ih d _ p h q) (deref_all n ih l _ ps' t q2)
theorem deref_dp (sr : SR K L io H S) : ∀ (n : Nat) (d : Dv) (v : V) (p : PyData), VR K L io H v d → toP (deref n S d) = some p → Dp K H v p
  | 0, d, v, p, r, e => toP_ok d v p r e
  | n + 1, .tup l, v, p, r, e => by
    obtain ⟨a, xs, rfl, s, t⟩ := r.tupS
    simp only [deref, toP] at e
    cases q : toPs (l.map (deref n S)) with
    | none => rw [q] at e; cases e
    | some ps => rw [q] at e; cases e; exact .tup s (deref_all n (deref_dp sr n) l xs ps t q)
  | n + 1, .lst l, v, p, r, e => by
    simp only [deref, toP] at e
    cases q : toPs (l.map (deref n S)) with
    | none => rw [q] at e; cases e
    | some ps =>
      rw [q] at e; cases e
      cases r with
      | lst nl h t => exact .lst (SqL.of h) (deref_all n (deref_dp sr n) l _ ps t q)
  | n + 1, .rol l, v, p, r, e => by
    simp only [deref, toP] at e
    cases q : toPs (l.map (deref n S)) with
    | none => rw [q] at e; cases e
    | some ps =>
      rw [q] at e; cases e
      cases r with
      | rol nl h t => exact .lst (.inl h) (deref_all n (deref_dp sr n) l _ ps t q)
      | rolK h t => exact .lst (h H) (deref_all n (deref_dp sr n) l _ ps t q)
  | n + 1, .hdl k, v, p, r, e => by
    cases q0 : S[k]? with
    | none => simp only [deref, q0, toP] at e; cases e
    | some o =>
      cases o with
      | lst l =>
        simp only [deref, q0, toP] at e
        cases q : toPs (l.map (deref n S)) with
        | none => rw [q] at e; cases e
        | some ps =>
          rw [q] at e; cases e
          cases r with
          | hdl hk =>
            obtain ⟨xs, h, t⟩ := sr.obj k _ _ hk q0
            exact .lst (SqL.of h) (deref_all n (deref_dp sr n) l xs ps t q)
      | dct l => simp only [deref, q0, toP] at e; cases e
      | ins c fs => simp only [deref, q0, toP] at e; cases e
      | ext _ _ _ => simp only [deref, q0, toP] at e; cases e
  | n + 1, .non, v, p, r, e => toP_ok _ v p r e
  | n + 1, .bl _, v, p, r, e => toP_ok _ v p r e
  | n + 1, .int _, v, p, r, e => toP_ok _ v p r e
  | n + 1, .str _, v, p, r, e => toP_ok _ v p r e
  | n + 1, .dic _, v, p, r, e => by simp [deref, toP] at e
  | n + 1, .obj _ _, v, p, r, e => toP_ok _ v p r e
  | n + 1, .glo _, v, p, r, e => toP_ok _ v p r e
  | n + 1, .ty _, v, p, r, e => toP_ok _ v p r e
  | n + 1, .ext _ _ _ _, v, p, r, e => toP_ok _ v p r e
/-- as a whole -/
def res (S : Sto) (d : Dv) : Dv := deref 40 S d
theorem res_dp (sr : SR K L io H S) {v : V} {d : Dv} {p : PyData} (r : VX K L io H v d) (e : toP (res S d) = some p) : Dp K H v p := by
  rcases r with r | ⟨a, o, rfl, rfl, np, ob⟩
  · exact deref_dp sr 40 d v p r e
  · cases o with
    | lst l =>
      simp only [vwO, res, deref, toP] at e
      cases q : toPs (l.map (deref 39 S)) with
      | none => rw [q] at e; cases e
      | some ps =>
        rw [q] at e; cases e
        obtain ⟨xs, h, t⟩ := ob
        exact .lst (SqL.of h) (deref_all 39 (deref_dp sr 39) l xs ps t q)
    | dct l => simp [vwO, res, deref, toP] at e
    | ins c fs => simp [vwO, res, deref, toP] at e
    | ext _ _ _ => simp [vwO, res, deref, toP] at e
end
/-- two lists of unlike lengths -/
def lenNe : Option (List Dv) → Option (List Dv) → Bool
  | some l, some m => l.length != m.length
  | _, _ => false
def deepE (S : Sto) (a b : Dv) : Option Bool := (toP (res S a)).bind fun p => (toP (res S b)).bind fun q => if SeqAt.shaped p && SeqAt.shaped q then some (PyData.eqv p q) else none
def eqD (S : Sto) : Dv → Dv → Option Bool
  | .str x, .str y => some (decide (x = y))
  | .int x, .int y => some (decide (x = y))
  | .bl x, .bl y => some (decide (x = y))
  | .non, .non => some true
  | .non, .int _ => some false
  | .non, .bl _ => some false
  | .non, .str _ => some false
  | .int _, .non => some false
  | .int _, .str _ => some false
  | .bl _, .non => some false
  | .bl _, .str _ => some false
  | .str _, .non => some false
  | .str _, .int _ => some false
  | .str _, .bl _ => some false
  | a, b => if lenNe (asL S a) (asL S b) then some false else deepE S a b
def eqE : Sto → Dv → Dv → Option (Dv × Sto) := fun S a b => (eqD S a b).map fun c => (.bl c, S)
def neE : Sto → Dv → Dv → Option (Dv × Sto) := fun S a b => (eqD S a b).map fun c => (.bl (!c), S)
/-- two lists of unlike lengths -/
def rLen (K : PySem.W.Frag) (b : Bool) : R2 := fun x y H Q => ∃ p q xs ys, x = .ref p ∧ y = .ref q ∧ SqL K H p xs ∧ SqL K H q ys ∧ xs.length ≠ ys.length ∧ Q (.bl b) H
theorem op_eqLen {X : Cx} (hu : X.A.units < cLine) : OpR X (compareOp .Eq) (rLen X.K false) := by
  rintro pins s σ H x y v u Q I rx ry ⟨p, q, xs, ys, rfl, rfl, h1, h2, hl, z⟩
  cases rx; cases ry
  obtain ⟨its, r1, l1, _⟩ := I.list h1
  obtain ⟨its2, r2, l2, _⟩ := I.list h2
  refine SeqAt.eq_list_lengthsAt l1.isList l2.isList ?_ hu ⟨.bl _, H, I, rfl, z⟩
  rw [List.size_toArray, List.size_toArray, ← r1.length, ← r2.length]
  simpa using hl
theorem op_neLen {X : Cx} (hu : X.A.units < cLine) : OpR X (compareOp .NotEq) (rLen X.K true) := by
  rintro pins s σ H x y v u Q I rx ry ⟨p, q, xs, ys, rfl, rfl, h1, h2, hl, z⟩
  cases rx; cases ry
  obtain ⟨its, r1, l1, _⟩ := I.list h1
  obtain ⟨its2, r2, l2, _⟩ := I.list h2
  refine SeqAt.RcNeAt.lists_lengths l1.isList l2.isList ?_ hu _ _ _ _ ⟨.bl _, H, I, rfl, z⟩
  rw [List.size_toArray, List.size_toArray, ← r1.length, ← r2.length]
  simpa using hl
def rEqA (K : PySem.W.Frag) : R2 := fun x y H Q => (rEq x y H Q ∨ rEqD K x y H Q) ∨ rLen K false x y H Q
def rNeA (K : PySem.W.Frag) : R2 := fun x y H Q => (rNe x y H Q ∨ rNeD K x y H Q) ∨ rLen K true x y H Q
theorem eqD_deep {S : Sto} {a b : Dv} {c : Bool} (e : eqD S a b = some c) : (∃ x y : V, scal x y = true ∧ c = decide (x = y) ∧ ∀ (K : PySem.W.Frag) L io H v w, VX K L io H v a → VX K L io H w b → v = x ∧ w = y) ∨ (∃ p q, toP (res S a) = some p ∧ toP (res S b) = some q ∧ SeqAt.shaped p = true ∧ SeqAt.shaped q = true ∧ c = PyData.eqv p q) ∨ ∃ l m, asL S a = some l ∧ asL S b = some m ∧ l.length ≠ m.length ∧ c = false := by
  have deep : (if lenNe (asL S a) (asL S b) then some false else deepE S a b) = some c → (∃ p q, toP (res S a) = some p ∧ toP (res S b) = some q ∧ SeqAt.shaped p = true ∧ SeqAt.shaped q = true ∧ c = PyData.eqv p q) ∨ ∃ l m, asL S a = some l ∧ asL S b = some m ∧ l.length ≠ m.length ∧ c = false := by
    intro e
    split at e
    · rename_i hl
      cases e
      cases h1 : asL S a with
      | none => rw [h1] at hl; cases hl
      | some l =>
        cases h2 : asL S b with
        | none => rw [h1, h2] at hl; cases hl
        | some m => rw [h1, h2] at hl; exact .inr ⟨l, m, rfl, rfl, by simpa [lenNe] using hl, rfl⟩
    · unfold deepE at e
      cases h1 : toP (res S a) with
      | none => rw [h1] at e; cases e
      | some p =>
        cases h2 : toP (res S b) with
        | none => rw [h1, h2] at e; cases e
        | some q =>
          rw [h1, h2] at e
          simp only [Option.bind_some] at e
          split at e
          · rename_i hs
            simp only [Bool.and_eq_true] at hs
            cases e
            exact .inl ⟨p, q, rfl, rfl, hs.1, hs.2, rfl⟩
          · cases e
  cases a <;> cases b <;> first
    | exact .inr (deep e)
    | (refine .inl ⟨_, _, ?_, ?_, fun K L io H v w r1 r2 => by cases r1.vr rfl; cases r2.vr rfl; exact ⟨rfl, rfl⟩⟩
       · rfl
       · cases e; first
          | rfl
          | (simp))
theorem ops_eq {K : PySem.W.Frag} : OpS K (rEqA K) eqE := by
  intro L io H S x y a b d S' Q sr ra rb e q
  unfold eqE at e
  cases h : eqD S a b with
  | none => rw [h] at e; cases e
  | some c =>
    rw [h] at e; cases e
    have fin := q (.bl c) H L io (Stp.refl ..) sr (.bl c)
    rcases eqD_deep h with ⟨x', y', h1, rfl, h3⟩ | ⟨p, p', h1, h2, h3, h4, rfl⟩ | ⟨l, m, h1, h2, h3, rfl⟩
    · obtain ⟨rfl, rfl⟩ := h3 K L io H x y ra rb
      exact .inl (.inl ⟨h1, fin⟩)
    · exact .inl (.inr ⟨p, p', res_dp sr ra h1, res_dp sr rb h2, h3, h4, fin⟩)
    · obtain ⟨p, xs, rfl, s1, t1⟩ := asL_x sr ra h1
      obtain ⟨q, ys, rfl, s2, t2⟩ := asL_x sr rb h2
      exact .inr ⟨p, q, xs, ys, rfl, rfl, s1, s2, by rw [t1.len, t2.len]; exact h3, fin⟩
theorem ops_ne {K : PySem.W.Frag} : OpS K (rNeA K) neE := by
  intro L io H S x y a b d S' Q sr ra rb e q
  unfold neE at e
  cases h : eqD S a b with
  | none => rw [h] at e; cases e
  | some c =>
    rw [h] at e; cases e
    have fin := q (.bl (!c)) H L io (Stp.refl ..) sr (.bl _)
    rcases eqD_deep h with ⟨x', y', h1, rfl, h3⟩ | ⟨p, p', h1, h2, h3, h4, rfl⟩ | ⟨l, m, h1, h2, h3, rfl⟩
    · obtain ⟨rfl, rfl⟩ := h3 K L io H x y ra rb
      exact .inl (.inl ⟨h1, fin⟩)
    · exact .inl (.inr ⟨p, p', res_dp sr ra h1, res_dp sr rb h2, h3, h4, fin⟩)
    · obtain ⟨p, xs, rfl, s1, t1⟩ := asL_x sr ra h1
      obtain ⟨q, ys, rfl, s2, t2⟩ := asL_x sr rb h2
      exact .inr ⟨p, q, xs, ys, rfl, rfl, s1, s2, by rw [t1.len, t2.len]; exact h3, fin⟩
section
variable {X : Cx} {W : WX} {pos : Pos} {a b : Expr} {f1 f2 : DE} {k : Nat}
theorem op_eqA (hr : Room k X.A) : OpR X (compareOp .Eq) (rEqA X.K) := (op_eq.or (op_eqD hr.units)).or (op_eqLen hr.units0)
theorem op_neA (hr : Room k X.A) : OpR X (compareOp .NotEq) (rNeA X.K) := (op_ne.or (op_neD hr.units)).or (op_neLen hr.units0)
theorem qe_eq (hr : Room k X.A) (ha : QX X W a f1) (hb : QX X W b f2) : QE X W (.Compare a [.Eq] [b] pos) (eBin eqE f1 f2) := qe_cmp (op_eqA hr) ops_eq ha hb
theorem qt_eq (hr : Room k X.A) (ha : QX X W a f1) (hb : QX X W b f2) : QT X W (.Compare a [.Eq] [b] pos) (tVal (eBin eqE f1 f2)) := qt_cmp (op_eqA hr) ops_eq ha hb
theorem qt_ne (hr : Room k X.A) (ha : QX X W a f1) (hb : QX X W b f2) : QT X W (.Compare a [.NotEq] [b] pos) (tVal (eBin neE f1 f2)) := qt_cmp (op_neA hr) ops_ne ha hb
end
def asQ (S : Sto) (d : Dv) : Option (List Dv) := match asT d with
  | some l => some l
  | none => asL S d
theorem asQ_x {K : PySem.W.Frag} {L : Addr → Prop} {io : List Addr} {H : Hp} {S : Sto} {v : V} {d : Dv} {l : List Dv} (s : SR K L io H S) (r : VX K L io H v d) (h : asQ S d = some l) : ∃ a xs, v = .ref a ∧ (SqL K H a xs ∨ SqT K H a xs) ∧ VRs K L io H xs l := by
  unfold asQ at h
  cases q : asT d with
  | some m =>
    rw [q] at h; cases h
    obtain ⟨a, xs, h1, h2, h3⟩ := asT_x r q
    exact ⟨a, xs, h1, .inr h2, h3⟩
  | none =>
    rw [q] at h
    obtain ⟨a, xs, h1, h2, h3⟩ := asL_x s r h
    exact ⟨a, xs, h1, .inl h2, h3⟩
def isD (neg : Bool) : Dv → Dv → Option Dv
  | a, .non => some (.bl (match a with
    | .non => !neg
    | _ => neg))
  | .bl x, .bl y => some (.bl (if neg then !decide (x = y) else decide (x = y)))
  | _, _ => none
end DL
namespace DL
open PySem L2
def truD (S : Sto) : Dv → Option Bool
  | .non => some false
  | .bl b => some b
  | .int i => some (i != 0)
  | .str x => if x.length ≤ sizeLine then some ((x.length : Int) != 0) else none
  | .tup l => some (!l.isEmpty)
  | .lst l => some (!l.isEmpty)
  | .rol l => some (!l.isEmpty)
  | .dic l => some (!l.isEmpty)
  | .hdl k => match S[k]? with
    | some (.lst l) => some (!l.isEmpty)
    | some (.dct l) => some (!l.isEmpty)
    | _ => none
  | _ => none
/-- a value's truth, of a locked dict, too -/
def TruW (K : PySem.W.Frag) (x : V) (H : Hp) (k : Bool) : Prop := TruV K x H k ∨ ∃ p kvs, x = .ref p ∧ Rd H p (.dK kvs) ∧ k = !kvs.isEmpty
theorem truW_ok {X : Cx} : TruR X (fun x H Q => ∃ k, TruW X.K x H k ∧ Q k H) := by
  intro pins s σ H x v Q I rx ⟨k, e, q⟩
  rcases e with e | ⟨p, kvs, rfl, hx, rfl⟩
  · exact tru_ok pins s σ H x v Q I rx ⟨k, e, q⟩
  · cases rx
    have hl := line63
    have hs : sizeLine = 16777216 := sizeLine_eq
    obtain ⟨hz, hS, vs, r, m⟩ := dk_rd I.hok hx
    have hlen : kvs.length = vs.length := Paired.length r
    exact wpAny_truthy_dict hS m (by omega) ⟨H, I.tok _, by rw [isEmpty_kv r]; exact q⟩
open PySem.Spec PyProof.Rows in
theorem pt_truthW {X : Cx} {a : Expr} {ta : TE} (ha : PE X a ta) (he : ∀ whole, isTrue a X.env whole = (do let v ← whole; standAt a.pos; holding [v] (truthy v))) :
    PT X a (fun σ H Q => ta σ H fun x H' => ∃ k, TruW X.K x H' k ∧ Q k H') := by
  refine ⟨fun pins s σ H Q I h => ?_⟩
  exact isTrue_plain (thn (ha.run pins s σ H _ I h) fun v s1 ⟨x, H1, I1, r1, q1⟩ => truW_ok pins s1 σ H1 x v Q I1 r1 q1) (he _)
section
variable {X : Cx} {a b : Expr} {ta tb : TE} {rest : List Expr} {pos : Pos}
def tAndW (K : PySem.W.Frag) (ta tb : TE) : TE := fun σ H Q => ta σ H fun x H1 => ∃ k, TruW K x H1 k ∧ if k = true then tb σ H1 Q else Q x H1
open PySem.Spec PyProof.Rows in
theorem pe_andW (ha : PE X a ta) (hb : PE X (.BoolOp .And (b :: rest) pos) tb) : PE X (.BoolOp .And (a :: b :: rest) pos) (tAndW X.K ta tb) := by
  refine ⟨fun pins s σ H Q I h => ?_⟩
  refine BoolOp_and (thn (ha.run pins s σ H _ I h) fun v s1 ⟨x, H1, I1, r1, q1⟩ => ?_)
  obtain ⟨k, e, q1⟩ := q1
  refine thn (truW_ok pins s1 σ H1 x v (fun c H2 => c = k ∧ H2 = H1) I1 r1 ⟨k, e, rfl, rfl⟩) fun c s2 hc => ?_
  obtain ⟨H2, I2, e1, e2⟩ := hc
  rw [e2] at I2
  rw [← e1] at q1
  cases c with
  | true => exact hb.run pins s2 σ H1 Q I2 q1
  | false => exact ⟨x, H1, I2, r1, q1⟩
end
section
variable {K : PySem.W.Frag} {L : Addr → Prop} {io : List Addr} {H : Hp} {S : Sto}
theorem VRs.empty {vs : List V} {l : List Dv} (r : VRs K L io H vs l) : vs.isEmpty = l.isEmpty := by cases r <;> rfl
theorem PairR.len {α : Type} {R : V → Dv → Prop} : ∀ {l : List (α × V)} {m : List (α × Dv)}, PairR R l m → l.length = m.length
  | _, _, .nil => rfl
  | _, _, .cons _ t => by rw [List.length_cons, List.length_cons, PairR.len t]
theorem truD_ok0 (s : SR K L io H S) {v : V} {d : Dv} {b : Bool} (rx : VX K L io H v d) (hd : ∀ l, d ≠ .dic l) (e : truD S d = some b) : TruV K v H b := by
  have seq : ∀ {l : List Dv}, asL S d = some l → b = !l.isEmpty → TruV K v H b := fun h eb => by
    obtain ⟨a, xs, rfl, h1, h2⟩ := asL_x s rx h
    exact .inl ⟨xs, h1, by rw [h2.empty]; exact eb⟩
  cases d with
  | non => cases rx.vr rfl; cases e; rfl
  | bl => cases rx.vr rfl; cases e; rfl
  | int => cases rx.vr rfl; cases e; rfl
  | str x =>
    cases rx.vr rfl
    simp only [truD] at e
    split at e
    · rename_i h; cases e; exact ⟨h, rfl⟩
    · cases e
  | tup l =>
    obtain ⟨a, xs, rfl, h1, h2⟩ := (rx.vr rfl).tupS
    cases e
    exact .inr (.inl ⟨xs, h1, by rw [h2.empty]⟩)
  | lst l => cases e; exact seq rfl rfl
  | rol l => cases e; exact seq rfl rfl
  | dic l => exact absurd rfl (hd l)
  | hdl k =>
    have r := rx.vr rfl
    cases q : S[k]? with
    | none => simp [truD, q] at e
    | some o =>
      cases o with
      | lst l =>
        simp [truD, q] at e
        exact seq (l := l) (by simp [asL, q]) (by rw [e]; simp)
      | dct l =>
        simp [truD, q] at e
        cases r with
        | hdl hk =>
          obtain ⟨kvs, h1, h2⟩ := s.obj k _ _ hk q
          refine .inr (.inr ⟨kvs, h1, ?_⟩)
          have e2 : kvs.isEmpty = l.isEmpty := by cases h2 <;> rfl
          rw [e2, e]
          simp
      | ins => simp [truD, q] at e
      | ext => simp [truD, q] at e
  | _ => simp [truD] at e
theorem truD_ok (s : SR K L io H S) {v : V} {d : Dv} {b : Bool} (rx : VX K L io H v d) (e : truD S d = some b) : TruW K v H b := by
  cases d with
  | dic l =>
    cases e
    rcases rx with r | ⟨p, o, rfl, h, np, ob⟩
    · cases r with
      | dic n h t =>
        refine .inr ⟨_, _, rfl, h, ?_⟩
        cases t <;> rfl
    · cases o with
      | dct m =>
        cases h
        obtain ⟨kvs, h1, h2⟩ := ob
        refine .inr ⟨p, kvs, rfl, .inl h1, ?_⟩
        cases h2 <;> rfl
      | _ => cases h
  | _ => exact .inl (truD_ok0 s rx (fun l z => nomatch z) e)
end
def truR (a : Dv) (S : Sto) : Res Bool := ofO ((truD S a).map fun b => (b, S))
def tTru (f : DE) : DT := fun e S => bnd (f e S) truR
theorem map_ok {α β : Type} {o : Option α} {f : α → β} {b : β} (h : o.map f = some b) : ∃ a, o = some a ∧ f a = b := by
  cases o with
  | none => cases h
  | some a => exact ⟨a, rfl, Option.some.inj h⟩
section
variable {X : Cx} {W : WX} {pos : Pos} {a b c : Expr} {f f1 f2 : DE} {t1 t2 : DT} {rest : List Expr}
theorem qt_tru (ha : QX X W a f) (he : ∀ whole, isTrue a X.env whole = (do let v ← whole; standAt a.pos; holding [v] (truthy v)) := by intro _; rfl) : QT X W a (tTru f) :=
  pt_imp (pt_truthW ha he) fun g H Q q => by
    refine Rdg.bind (R := VX X.K) (k := fun _ => truR) q fun L0 io0 H0 L io H1 e S d v fr rv q => ?_
    obtain ⟨d, S', h1, h2⟩ := q.opt
    obtain ⟨b, h3, h4⟩ := map_ok h1
    cases h4
    exact ⟨_, truD_ok fr.st rv h3, h2 _ H1 L io (Stp.refl ..) fr.st rfl⟩
/-- and, or, not as tests -/
def tAnd' (t1 t2 : DT) : DT := fun e S => bnd (t1 e S) fun b S1 => if b then t2 e S1 else .ok false S1
def tOr' (t1 t2 : DT) : DT := fun e S => bnd (t1 e S) fun b S1 => if b then .ok true S1 else t2 e S1
def tNot' (t1 : DT) : DT := fun e S => bnd (t1 e S) fun b S1 => .ok (!b) S1
theorem rd_or {K : PySem.W.Frag} {g : St} {H : Hp} {Q : Bool → Hp → Prop} (q : rdt K W (tOr' t1 t2) g H Q) : tOr (rdt K W t1) (rdt K W t2) g H Q := by
  refine Rdg.bind (R := fun _ _ _ (v : Bool) d => v = d) (k := fun e b S1 => if b then .ok true S1 else t2 e S1) q fun L0 io0 H0 L io H1 e S d v fr rv q => ?_
  subst rv
  cases v with
  | true => exact (iteT (q.ok1 fr.st rfl))
  | false => exact (iteF (Fin.rdg fr q))
abbrev QW (X : Cx) (W : WX) (e : Expr) (f : DT) : Prop := PW X e (rdt X.K W f)
theorem qw_or1 (ha : QT X W a t1) : QW X W (.BoolOp .Or [a] pos) t1 := pw_or1 ha
theorem qw_or (ha : QT X W a t1) (hb : QW X W (.BoolOp .Or (b :: rest) pos) t2) : QW X W (.BoolOp .Or (a :: b :: rest) pos) (tOr' t1 t2) := pw_imp (pw_or ha hb) fun _ _ _ q => rd_or q
theorem qt_w (h : QW X W a t1) : QT X W a t1 := PW.pt h
theorem qt_not (ha : QT X W a t1) : QT X W (.UnaryOp .Not a pos) (tNot' t1) := pt_imp (pt_not ha) fun g H Q q => by
  refine Rdg.bind (R := fun _ _ _ (v : Bool) d => v = d) (k := fun e b S1 => .ok (!b) S1) q fun L0 io0 H0 L io H1 e S d v fr rv q => ?_
  subst rv
  exact q.ok1 fr.st rfl
/-- a if t else b -/
def eIf (t : DT) (f1 f2 : DE) : DE := fun e S => bnd (t e S) fun b S1 => if b then f1 e S1 else f2 e S1
theorem qe_if (hc : QT X W c t1) (ha : QE X W a f1) (hb : QE X W b f2) : QE X W (.IfExp c a b pos) (eIf t1 f1 f2) := pe_imp (pe_ifExp hc ha hb) fun g H Q q => by
  refine Rdg.bind (R := fun _ _ _ (v : Bool) d => v = d) (k := fun e b S1 => if b then f1 e S1 else f2 e S1) q fun L0 io0 H0 L io H1 e S d v fr rv q => ?_
  subst rv
  cases v with
  | true => exact (iteT (Fin.rdg fr q))
  | false => exact (iteF (Fin.rdg fr q))
/-- and, or, not as values -/
def eAnd (f1 f2 : DE) : DE := fun e S => bnd (f1 e S) fun a S1 => bnd (truR a S1) fun k S2 => if k then f2 e S2 else .ok a S2
def eOr (f1 f2 : DE) : DE := fun e S => bnd (f1 e S) fun a S1 => bnd (truR a S1) fun k S2 => if k then .ok a S2 else f2 e S2
def eNot (f1 : DE) : DE := fun e S => bnd (f1 e S) fun a S1 => bnd (truR a S1) fun k S2 => .ok (.bl (!k)) S2
theorem Fin.tru {α' β' : Type} {K : PySem.W.Frag} {R' : (Addr → Prop) → List Addr → Hp → β' → α' → Prop} {g : St} {L : Addr → Prop} {io : List Addr} {H : Hp} {Q : β' → Hp → Prop} {k : Bool → Sto → Res α'} {a : Dv} {v : V} {S : Sto} (h : Fin K W R' g L io H Q (bnd (truR a S) k)) (sr : SR K L io H S) (r : VR K L io H v a) :
    ∃ b, TruW K v H b ∧ Fin K W R' g L io H Q (k b S) := by
  unfold truR at h
  cases q : truD S a with
  | none => rw [q] at h; exact h.elim
  | some b => rw [q] at h; exact ⟨b, truD_ok sr (.inl r) q, h⟩
theorem qe_one {op} (h : QE X W a f) : QE X W (.BoolOp op [a] pos) f := pe_one h
theorem qe_and (ha : QE X W a f1) (hb : QE X W (.BoolOp .And (b :: rest) pos) f2) : QE X W (.BoolOp .And (a :: b :: rest) pos) (eAnd f1 f2) := pe_imp (pe_andW ha hb) fun g H Q q => by
  refine Rdg.bind (R := VR X.K) (k := fun e a S1 => bnd (truR a S1) fun k S2 => if k then f2 e S2 else .ok a S2) q fun L0 io0 H0 L io H1 e S d v fr rv q => ?_
  obtain ⟨k, h1, q⟩ := q.tru fr.st rv
  refine ⟨k, h1, ?_⟩
  cases k with
  | true => exact (iteT (Fin.rdg fr q))
  | false => exact (iteF (q.ok1 fr.st rv))
variable {es : List Expr} {fa : DA}
def aNil : DA := fun _ S => .ok [] S
def aCons (f : DE) (fa : DA) : DA := fun e S => bnd (f e S) fun d S1 => bnd (fa e S1) fun l S2 => .ok (d :: l) S2
theorem qa_nil : QA X W [] aNil := pa_imp pa_nil fun g H Q q => by
  obtain ⟨L0, io0, H0, L, io, e, S, fr, q⟩ := q
  exact q.ok1 fr.st .nil
theorem qa_cons (ha : QE X W a f) (hr : QA X W es fa) (hs : starEach (a :: es) X.env = (false, eval a X.env) :: starEach es X.env := by rfl) : QA X W (a :: es) (aCons f fa) := pa_imp (pa_cons ha hr hs) fun g H Q q => by
  refine Rdg.bind (R := VR X.K) (k := fun e d S1 => bnd (fa e S1) fun l S2 => .ok (d :: l) S2) q fun L0 io0 H0 L io H1 e S d v fr rv q => ?_
  refine Fin.bind (R := VRs X.K) (k := fun l S2 => .ok (d :: l) S2) fr q fun L2 io2 H2 S2 l w s2 fr2 rw2 q => ?_
  exact q.ok1 fr2.st (.cons (rv.step s2 fr.st.sub) rw2)
def tupR (l : List Dv) (S : Sto) : Res Dv := if l.length ≤ sizeLine then .ok (.tup l) S else .no
def lstR (l : List Dv) (S : Sto) : Res Dv := if l.length ≤ sizeLine then .ok (.lst l) S else .no
def eTup (fa : DA) : DE := fun e S => bnd (fa e S) tupR
def eLst (fa : DA) : DE := fun e S => bnd (fa e S) lstR
theorem qe_tup {x1} (h : QA X W es fa) : QE X W (.Tuple es x1 pos) (eTup fa) := pe_imp (pe_tup h) fun g H Q q => by
  refine Rdg.bind (R := VRs X.K) (k := fun e => tupR) q fun L0 io0 H0 L io H1 e S d v fr rv q => ?_
  unfold tupR at q
  split at q
  · rename_i hl
    exact ⟨by rw [rv.len]; exact hl, fun p hp => q _ _ L io (Stp.alloc hp) (fr.st.alloc hp) (VR.newT fr.st hp rv)⟩
  · exact q.elim
end
section
variable {X : Cx} {W : WX} {a : Expr} {es : List Expr} {f : DE} {fa : DA}
theorem qxs_nil : QXs X W [] aNil := pa_imp pa_nil fun g H Q q => by
  obtain ⟨L0, io0, H0, L, io, e, S, fr, h⟩ := q
  exact h [] H L io (Stp.refl ..) fr.st .nil
theorem VXs.step {K : PySem.W.Frag} {L L' : Addr → Prop} {io io' : List Addr} {H H' : Hp} : ∀ {vs : List V} {l : List Dv}, VXs K L io H vs l → Stp L io H L' io' H' → (∀ x ∈ io, L x) → VXs K L' io' H' vs l
  | _, _, .nil, _, _ => .nil
  | _, _, .cons h t, s, sub => .cons (h.step s sub) (t.step s sub)
theorem qxs_cons (ha : QX X W a f) (hr : QXs X W es fa) (hs : starEach (a :: es) X.env = (false, eval a X.env) :: starEach es X.env := by rfl) : QXs X W (a :: es) (aCons f fa) := pa_imp (pa_cons ha hr hs) fun g H Q q => by
  refine Rdg.bind (R := VX X.K) (k := fun e d S1 => bnd (fa e S1) fun l S2 => .ok (d :: l) S2) q fun L0 io0 H0 L io H1 e S d v fr rv q => ?_
  refine Fin.bind (R := VXs X.K) (k := fun l S2 => .ok (d :: l) S2) fr q fun L2 io2 H2 S2 l vs s2 fr2 rvs q => ?_
  exact q.ok1 fr2.st (.cons (rv.step s2 fr.st.sub) rvs)
end
def CaS (K : PySem.W.Frag) (r : List V → Hp → VK → Prop) (h : Sto → List Dv → Option (Dv × Sto)) : Prop :=
  ∀ (L : Addr → Prop) (io : List Addr) (H : Hp) (S : Sto) (xs : List V) (l : List Dv) (d : Dv) (S' : Sto) (Q : VK), SR K L io H S → VXs K L io H xs l → h S l = some (d, S') →
    (∀ (v : V) (H' : Hp) (L' : Addr → Prop) (io' : List Addr), Stp L io H L' io' H' → SR K L' io' H' S' → VR K L' io' H' v d → Q v H') → r xs H Q
def eCB (h : Sto → List Dv → Option (Dv × Sto)) (fa : DA) : DE := fun e S => bnd (fa e S) fun l S1 => ofO (h S1 l)
theorem rd_cb {K : PySem.W.Frag} {W : WX} {r : List V → Hp → VK → Prop} {h : Sto → List Dv → Option (Dv × Sto)} {fa : DA} (hc : CaS K r h) {g : St} {H : Hp} {Q : VK} (q : rd K W (eCB h fa) g H Q) : tCB r (Rdg K W (VXs K) fa) g H Q := by
  refine Rdg.bind (R := VXs K) (k := fun _ l S1 => ofO (h S1 l)) q fun L0 io0 H0 L io H1 e S l v fr rv q => ?_
  obtain ⟨d, S', h1, h2⟩ := q.opt
  exact hc L io H1 S v l d S' Q fr.st rv h1 h2
section
variable {X : Cx} {W : WX} {pos p : Pos} {e : Expr} {es : List Expr} {fa : DA} {r : List V → Hp → VK → Prop} {h : Sto → List Dv → Option (Dv × Sto)} {x : Str} {id T : String}
theorem qe_callB (hc : CallR X (.builtin id) r) (hs : CaS X.K r h) (hm : X.mg x = none) (hv : bootBuiltins x = some (.builtin id)) (ha : QXs X W (e :: es) fa) (hg : Gl X x := by rfl) (hn : x ≠ "__name__" := by decide) (hdb : (x == ("__debug__" : Str)) = false := by decide)
    (he : starEach (e :: es) X.env = (false, eval e X.env) :: starEach es X.env := by rfl) (hpl : (backTo pos (starEach es X.env)).any (·.1) = false := by rfl) : QE X W (.Call (.Name x p) (e :: es) [] pos) (eCB h fa) :=
  pe_imp (pe_callB hc hg hm hv ha hn hdb he hpl) fun _ _ _ q => rd_cb hs q
theorem qe_callTy (hc : CallR X (.type T) r) (hs : CaS X.K r h) (hm : X.mg x = none) (hv : bootBuiltins x = some (.type T)) (ha : QXs X W (e :: es) fa) (hg : Gl X x := by rfl) (hn : x ≠ "__name__" := by decide) (hdb : (x == ("__debug__" : Str)) = false := by decide)
    (he : starEach (e :: es) X.env = (false, eval e X.env) :: starEach es X.env := by rfl) (hpl : (backTo pos (starEach es X.env)).any (·.1) = false := by rfl) : QE X W (.Call (.Name x p) (e :: es) [] pos) (eCB h fa) :=
  pe_imp (pe_callTy hc hg hm hv ha hn hdb he hpl) fun _ _ _ q => rd_cb hs q
end
def lenD (S : Sto) : List Dv → Option (Dv × Sto)
  | [.str x] => if x.length ≤ sizeLine then some (.int x.length, S) else none
  | [d] => (asQ S d).map fun l => (.int l.length, S)
  | _ => none
theorem cas_len {K : PySem.W.Frag} : CaS K (fun xs H Q => ∃ x n, xs = [x] ∧ LenV K x H n ∧ Q (.int n) H) lenD := by
  intro L io H S xs l d S' Q sr rv e q
  cases rv with
  | nil => cases e
  | cons r t =>
    cases t with
    | cons r2 t2 => rename_i dd _ _ _ _; cases dd <;> cases e
    | nil =>
      rename_i v dd
      have seq : (asQ S dd).map (fun l => ((.int l.length : Dv), S)) = some (d, S') → ∃ x n, [v] = [x] ∧ LenV K x H n ∧ Q (.int n) H := by
        intro e
        obtain ⟨l, h1, h2⟩ := map_ok e
        cases h2
        obtain ⟨a, xs, rfl, hs, t⟩ := asQ_x sr r h1
        have fin := q (.int l.length) H L io (Stp.refl ..) sr (.int _)
        refine ⟨_, l.length, rfl, ?_, fin⟩
        rcases hs with hs | hs
        · exact .inl ⟨xs, hs, t.len.symm⟩
        · exact .inr ⟨xs, hs, t.len.symm⟩
      cases dd with
      | str x =>
        simp only [lenD] at e
        split at e
        · rename_i h
          cases e; cases r.vr rfl
          exact ⟨_, x.length, rfl, ⟨h, rfl⟩, q _ H L io (Stp.refl ..) sr (.int _)⟩
        · cases e
      | _ => exact seq e
/-- abs, int -/
def absD (S : Sto) : List Dv → Option (Dv × Sto)
  | [.int i] => some (.int (if i < 0 then -i else i), S)
  | _ => none
theorem cas_abs {K : PySem.W.Frag} : CaS K (fun xs H Q => ∃ i, xs = [.int i] ∧ Q (.int (if i < 0 then -i else i)) H) absD := by
  intro L io H S xs l d S' Q sr rv e q
  cases rv with
  | nil => cases e
  | cons r t =>
    cases t with
    | cons r2 t2 => rename_i dd _ _ _ _; cases dd <;> cases e
    | nil =>
      rename_i v dd
      cases dd with
      | int i => cases r.vr rfl; cases e; exact ⟨i, rfl, q _ H L io (Stp.refl ..) sr (.int _)⟩
      | _ => cases e
/-- list(x), tuple(x) -/
def listD (S : Sto) : List Dv → Option (Dv × Sto)
  | [d] => (asQ S d).map fun l => (.lst l, S)
  | _ => none
def tupleD (S : Sto) : List Dv → Option (Dv × Sto)
  | [d] => (asQ S d).map fun l => (.tup l, S)
  | _ => none
end DL
namespace DL
open PySem L2
def tyD (S : Sto) : Dv → Option String
  | .non => some "NoneType"
  | .bl _ => some "bool"
  | .int _ => some "int"
  | .str _ => some "str"
  | .tup _ => some "tuple"
  | .lst _ => some "list"
  | .rol _ => some "list"
  | .dic _ => some "dict"
  | .hdl k => match S[k]? with
    | some (.lst _) => some "list"
    | some (.dct _) => some "dict"
    | _ => none
  | _ => none
def tysOf : List Dv → Option (List String)
  | [] => some []
  | .ty c :: r => (tysOf r).map fun l => c :: l
  | _ => none
def kitS (t : String) : List String → Option Bool
  | [] => some false
  | c :: r => match kitB t c with
    | some true => some true
    | some false => kitS t r
    | none => none
def kitD (t : String) (cs : List Dv) : Option Bool := (tysOf cs).bind fun l => kitS t l
def isiD (S : Sto) : List Dv → Option (Dv × Sto)
  | [d, .ty c] => (tyD S d).bind fun t => (kitB t c).map fun b => (.bl b, S)
  | [d, .tup cs] => (tyD S d).bind fun t => (kitD t cs).map fun b => (.bl b, S)
  | _ => none
section
variable {K : PySem.W.Frag} {L : Addr → Prop} {io : List Addr} {H : Hp} {S : Sto}
theorem sqT_K {a : Addr} {xs : List V} (h : ∀ H', SqT K H' a xs) : ∃ o, K.lookup a = some o ∧ o.cls = .type "tuple" := by
  rcases h (fun _ => none) with (h | ⟨o, h⟩) | ⟨o, its, n, h1, h2, _⟩
  · cases h
  · cases h
  · exact ⟨o, h1, h2⟩
theorem sqL_K {a : Addr} {xs : List V} (h : ∀ H', SqL K H' a xs) : ∃ o, K.lookup a = some o ∧ o.cls = .type "list" := by
  rcases h (fun _ => none) with (h | ⟨o, h⟩) | ⟨o, its, n, h1, h2, _⟩
  · cases h
  · cases h
  · exact ⟨o, h1, h2⟩
theorem tyD_ok0 (s : SR K L io H S) {v : V} {d : Dv} {t : String} (r : VR K L io H v d) (e : tyD S d = some t) : TyX K H v (.type t) := by
  cases r with
  | non => cases e; exact .base .non
  | bl b => cases e; exact .base (.bl b)
  | int b => cases e; exact .base (.int b)
  | str b => cases e; exact .base (.str b)
  | tup n h _ => cases e; exact .base (.tup h)
  | tupK h _ => cases e; obtain ⟨o, h1, h2⟩ := sqT_K h.1; exact .kTuple h1 h2
  | lst n h _ => cases e; exact .base (.lst h)
  | rol n h _ =>
    cases e
    rcases h with h | ⟨o, h⟩
    · exact .base (.lst h)
    · exact .base (.frz h)
  | rolK h _ => cases e; obtain ⟨o, h1, h2⟩ := sqL_K h; exact .kList h1 h2
  | dic n h _ =>
    cases e
    rcases h with h | ⟨o, h⟩
    · exact .base (.dK h)
    · exact .fDict h
  | hdl hk =>
    rename_i a k
    cases q : S[k]? with
    | none => simp [tyD, q] at e
    | some o =>
      cases o with
      | lst l => simp [tyD, q] at e; subst e; obtain ⟨xs, h, _⟩ := s.obj k _ _ hk q; exact .base (.lst h)
      | dct l => simp [tyD, q] at e; subst e; obtain ⟨xs, h, _⟩ := s.obj k _ _ hk q; exact .base (.dK h)
      | ins c fs => simp [tyD, q] at e
      | ext => simp [tyD, q] at e
  | _ => cases e
theorem tyD_ok (s : SR K L io H S) {v : V} {d : Dv} {t : String} (r : VX K L io H v d) (e : tyD S d = some t) : TyX K H v (.type t) := by
  rcases r with r | ⟨p, o, rfl, rfl, np, ob⟩
  · exact tyD_ok0 s r e
  · cases o with
    | lst l => cases e; obtain ⟨xs, h, _⟩ := ob; exact .base (.lst h)
    | dct l => cases e; obtain ⟨xs, h, _⟩ := ob; exact .base (.dK h)
    | ins c fs => cases e
    | ext => cases e
theorem tysOf_ok : ∀ {cs : List Dv} {vs : List V} {l : List String}, VRs K L io H vs cs → tysOf cs = some l → Paired ClsV vs (l.map Value.type)
  | _, _, _, .nil, e => by cases e; exact .nil
  | _, _, l, .cons r rs, e => by
    cases r with
    | ty c =>
      simp only [tysOf] at e
      obtain ⟨l', h1, rfl⟩ := map_ok e
      exact .cons (.ty c) (tysOf_ok rs h1)
    | _ => cases e
theorem kitS_ok {t : String} : ∀ {l : List String} {b : Bool}, kitS t l = some b → PySem.W.kitAny K (.type t) (l.map Value.type) = some b
  | [], _, e => e
  | c :: l, b, e => by
    simp only [kitS] at e
    cases q : kitB t c with
    | none => rw [q] at e; cases e
    | some z =>
      rw [q] at e
      have hz := kit_ty (K := K) q
      simp only [List.map_cons, PySem.W.kitAny, hz]
      cases z with
      | true => exact e
      | false => exact kitS_ok e
end
def rIsiA (K : PySem.W.Frag) : List V → Hp → VK → Prop := fun xs H Q => rIsi K xs H Q ∨ rIsiT K xs H Q ∨ rIsiK K xs H Q
theorem CallR.or {X : Cx} {f : Value} {r r' : List V → Hp → VK → Prop} (h : CallR X f r) (h' : CallR X f r') : CallR X f (fun x H Q => r x H Q ∨ r' x H Q) := by
  intro pins s g H xs us Q I rv q
  rcases q with q | q
  · exact h pins s g H xs us Q I rv q
  · exact h' pins s g H xs us Q I rv q
theorem cas_isi {K : PySem.W.Frag} : CaS K (rIsiA K) isiD := by
  intro L io H S xs l d S' Q sr rv e q
  cases rv with
  | nil => cases e
  | cons r t =>
    cases t with
    | nil => cases e
    | cons r2 t2 =>
      cases t2 with
      | cons r3 t3 => rename_i d2 _ _ _ _; cases d2 <;> cases e
      | nil =>
        rename_i v dd w cc
        have r2x := r2
        clear r2
        have hcv : isV cc = false := by
          cases cc <;> first | rfl | (simp [isiD] at e)
        cases r2x.vr hcv with
        | ty c =>
          simp only [isiD] at e
          cases h : tyD S dd with
          | none => rw [h] at e; cases e
          | some ty =>
            rw [h] at e
            obtain ⟨b, h1, h2⟩ := map_ok e
            cases h2
            exact .inl ⟨v, .ty c, .type ty, .type c, b, rfl, .ty c, tyD_ok sr r h, kit_ty h1, q _ H L io (Stp.refl ..) sr (.bl _)⟩
        | tup n ht ts =>
          simp only [isiD] at e
          cases h : tyD S dd with
          | none => rw [h] at e; cases e
          | some ty =>
            rw [h] at e
            obtain ⟨b, h1, h2⟩ := map_ok e
            cases h2
            unfold kitD at h1
            rename_i ds
            cases h3 : tysOf ds with
            | none => rw [h3] at h1; cases h1
            | some l =>
              rw [h3] at h1
              exact .inr (.inl ⟨v, _, _, .type ty, _, b, rfl, ht, tysOf_ok ts h3, tyD_ok sr r h, kitS_ok h1, q _ H L io (Stp.refl ..) sr (.bl _)⟩)
        | tupK ht ts =>
          simp only [isiD] at e
          cases h : tyD S dd with
          | none => rw [h] at e; cases e
          | some ty =>
            rw [h] at e
            obtain ⟨b, h1, h2⟩ := map_ok e
            cases h2
            unfold kitD at h1
            rename_i a xs ds
            cases h3 : tysOf ds with
            | none => rw [h3] at h1; cases h1
            | some l =>
              rw [h3] at h1
              rcases ht.1 (fun _ => none) with (ht | ⟨o, ht⟩) | ⟨⟨oc, od, dt, sl⟩, its, n, e1, e2, e3, _, rv⟩
              · cases ht
              · cases ht
              · simp only at e2 e3
                subst e2 e3
                have ei := ClsV.all (tysOf_ok ts h3) rv
                exact .inr (.inr ⟨v, a, od, its.toList, n, sl, .type ty, b, rfl, by simpa using e1, tyD_ok sr r h, by rw [ei]; exact kitS_ok h1, q _ H L io (Stp.refl ..) sr (.bl _)⟩)
        | _ => cases e
section
variable {K : PySem.W.Frag} {L : Addr → Prop} {io : List Addr} {H : Hp} {S : Sto}
theorem VRs.atI {vs : List V} {l : List Dv} {i : Int} {d : Dv} (r : VRs K L io H vs l) (h : L2.atI l i = some d) : ∃ v, L2.atI vs i = some v ∧ VR K L io H v d := by
  unfold L2.atI at h ⊢
  rw [r.len]
  cases q : ixN l.length i with
  | none => rw [q] at h; cases h
  | some j =>
    rw [q] at h
    obtain ⟨v, h1, h2⟩ := r.get (i := j) h
    exact ⟨v, h1, h2⟩
def cutG {α : Type} (xs : List α) (lo hi : Option Int) : List α := (xs.drop (HT.sIx xs.length 0 lo)).take (HT.sIx xs.length xs.length hi - HT.sIx xs.length 0 lo)
theorem VRs.cut {vs : List V} {l : List Dv} {lo hi : Option Int} (r : VRs K L io H vs l) : VRs K L io H (cutV vs lo hi) (cutG l lo hi) := by
  unfold cutV cutG
  rw [r.len]
  exact (r.drop _).take _
end
def ixD (S : Sto) (d i : Dv) : Option (Dv × Sto) := match i with
  | .int i => (match d with
    | .str z => if z.length ≤ sizeLine then (atI z.cps.toList i).map fun c => (.str ⟨#[c]⟩, S) else none
    | _ => (asQ S d).bind fun l => (atI l i).map fun x => (x, S))
  | _ => none
theorem ops_ix {K : PySem.W.Frag} : OpS K (rIx K) ixD := by
  intro L io H S x y a b d S' Q sr ra rb e q
  cases b with
  | int i =>
    cases rb.vr rfl
    have seq : ((asQ S a).bind fun l => (atI l i).map fun x => (x, S)) = some (d, S') → rIx K x (.int i) H Q := by
      intro e
      cases h : asT a with
      | some l =>
        have h' : asQ S a = some l := by unfold asQ; rw [h]
        rw [h'] at e
        obtain ⟨z, h1, h2⟩ := map_ok e
        cases h2
        obtain ⟨p, xs, rfl, hs, t⟩ := asT_x ra h
        obtain ⟨v, h3, h4⟩ := t.atI h1
        exact .inr (.inl ⟨p, xs, i, v, rfl, rfl, hs, h3, q _ H L io (Stp.refl ..) sr h4⟩)
      | none =>
        have h' : asQ S a = asL S a := by unfold asQ; rw [h]
        rw [h'] at e
        cases h5 : asL S a with
        | none => rw [h5] at e; cases e
        | some l =>
          rw [h5] at e
          obtain ⟨z, h1, h2⟩ := map_ok e
          cases h2
          obtain ⟨p, xs, rfl, hs, t⟩ := asL_x sr ra h5
          obtain ⟨v, h3, h4⟩ := t.atI h1
          exact .inl ⟨p, xs, i, v, rfl, rfl, hs, h3, q _ H L io (Stp.refl ..) sr h4⟩
    cases a with
    | str z =>
      simp only [ixD] at e
      split at e
      · rename_i hz
        obtain ⟨c, h1, h2⟩ := map_ok e
        cases h2; cases ra.vr rfl
        exact .inr (.inr ⟨z, i, c, rfl, rfl, hz, h1, q _ H L io (Stp.refl ..) sr (.str _)⟩)
      · cases e
    | _ => exact seq e
  | _ => cases e
theorem qe_ix {X : Cx} {W : WX} {pos : Pos} {a b : Expr} {f1 f2 : DE} (ha : QX X W a f1) (hb : QX X W b f2) (hs : PlainIx b := by exact fun _ _ => rfl) : QE X W (.Subscript a b pos) (eBin ixD f1 f2) := pe_imp (pe_ix ix_seq ha hb hs) fun _ _ _ q => rd_bin ops_ix q
/-- a[lo:hi] -/
abbrev DO := Env → Sto → Res (Option Int)
def rdo (K : PySem.W.Frag) (W : WX) (f : DO) : TO := Rdg K W (fun _ _ _ (v : Option Int) d => v = d) f
abbrev QO (X : Cx) (W : WX) (e : Option Expr) (f : DO) : Prop := PO X e (rdo X.K W f)
theorem po_imp {X : Cx} {e : Option Expr} {t t' : TO} (h : PO X e t) (i : ∀ g H Q, t' g H Q → t g H Q) : PO X e t' := ⟨fun pins s g H Q I q => h.run pins s g H Q I (i g H Q q)⟩
def oNone : DO := fun _ S => .ok none S
def oInt : Dv → Sto → Res (Option Int)
  | .int i, S => .ok (some i) S
  | _, _ => .no
def oSome (f : DE) : DO := fun e S => bnd (f e S) oInt
def cutD (S : Sto) (d : Dv) (lo hi : Option Int) : Option (Dv × Sto) := match d with
  | .str z => if z.length ≤ sizeLine then some (.str (cutS z lo hi), S) else none
  | .tup l => some (.tup (cutG l lo hi), S)
  | _ => (asL S d).map fun l => (.lst (cutG l lo hi), S)
def eCut (f : DE) (lo hi : DO) : DE := fun e S => bnd (f e S) fun d S1 => bnd (lo e S1) fun l S2 => bnd (hi e S2) fun h S3 => ofO (cutD S3 d l h)
section
variable {X : Cx} {W : WX} {pos p2 : Pos} {a : Expr} {lo hi : Option Expr} {f : DE} {fl fh : DO}
theorem qo_none : QO X W none oNone := po_imp po_none fun g H Q q => by
  obtain ⟨L0, io0, H0, L, io, e, S, fr, q⟩ := q
  exact q.ok1 fr.st rfl
theorem qo_some (h : QE X W a f) : QO X W (some a) (oSome f) := po_imp (po_some h) fun g H Q q => by
  refine Rdg.bind (R := VR X.K) (k := fun _ => oInt) q fun L0 io0 H0 L io H1 e S a v fr ra q => ?_
  cases ra with
  | int b => exact ⟨_, rfl, q.ok1 fr.st rfl⟩
  | _ => exact q.elim
theorem cutG_whole {α : Type} {l : List α} {lo hi : Option Int} (h : HT.sIx l.length 0 lo = 0 ∧ HT.sIx l.length l.length hi = l.length) : cutG l lo hi = l := by
  unfold cutG
  rw [h.1, h.2]
  simp
theorem qe_cut (he : QX X W a f) (hl : QO X W lo fl) (hh : QO X W hi fh) : QE X W (.Subscript a (.Slice lo hi none p2) pos) (eCut f fl fh) := pe_imp (pe_slice (sl_list.or (sl_tupA.or sl_str)) he hl hh) fun g H Q q => by
  refine Rdg.bind (R := VX X.K) (k := fun e d S1 => bnd (fl e S1) fun l S2 => bnd (fh e S2) fun h S3 => ofO (cutD S3 d l h)) q fun L0 io0 H0 L io H1 e S d v fr rv q => ?_
  refine Fin.bind (R := fun _ _ _ (v : Option Int) d => v = d) (k := fun l S2 => bnd (fh e S2) fun h S3 => ofO (cutD S3 d l h)) fr q fun L2 io2 H2 S2 l w s2 fr2 rw2 q => ?_
  subst rw2
  refine Fin.bind (R := fun _ _ _ (v : Option Int) d => v = d) (k := fun h S3 => ofO (cutD S3 d w h)) fr2 q fun L3 io3 H3 S3 h w2 s3 fr3 rw3 q => ?_
  subst rw3
  have r := (rv.step s2 fr.st.sub).step s3 fr2.st.sub
  obtain ⟨d', S', h1, h2⟩ := q.opt
  have lst : (asL S3 d).map (fun l => (Dv.lst (cutG l w w2), S3)) = some (d', S') → rSlL X.K v w w2 H3 Q := by
    intro e
    obtain ⟨l, h3, h4⟩ := map_ok e
    cases h4
    obtain ⟨p, xs, rfl, hs, t⟩ := asL_x fr3.st r h3
    exact ⟨p, xs, rfl, hs, fun p hp => h2 _ _ L3 io3 (Stp.alloc hp) (fr3.st.alloc hp) (VR.newL fr3.st hp t.cut)⟩
  cases d with
  | str z =>
    simp only [cutD] at h1
    split at h1
    · rename_i hz
      cases h1; cases r.vr rfl
      exact .inr (.inr ⟨z, rfl, hz, h2 _ H3 L3 io3 (Stp.refl ..) fr3.st (.str _)⟩)
    · cases h1
  | tup l =>
    cases h1
    obtain ⟨p, xs, rfl, hs, t⟩ := (r.vr rfl).tupS
    refine .inr (.inl ⟨p, xs, rfl, hs, fun hw => ?_, fun hw p hp => ?_⟩)
    · rw [t.len] at hw
      rw [cutG_whole hw] at h2
      exact h2 _ H3 L3 io3 (Stp.refl ..) fr3.st (r.vr rfl)
    · exact h2 _ _ L3 io3 (Stp.alloc hp) (fr3.st.alloc hp) (VR.newT fr3.st hp t.cut)
  | _ => exact .inl (lst h1)
end
structure RoomG (k : Nat) (A : Around) : Prop where
  r : Room k A
  g : A.guards = some []
theorem RoomG.mono {j k : Nat} {A : Around} (h : RoomG k A) (hj : j ≤ k) : RoomG j A := ⟨h.r.mono hj, h.g⟩
theorem RoomG.deeper {k : Nat} {A : Around} (h : RoomG (k + 1) A) (v : PySem.Env) : RoomG k (A.deeper v) := ⟨h.r.deeper v, h.g⟩
theorem RoomG.low {k : Nat} {A : Around} (h : RoomG (k + 1) A) : RoomG k A := h.mono (Nat.le_succ k)
/-- what a def promises: as FnOk, at calls without a guard; what it raises lies as L2.CX says -/
structure FnG (P : Program) (w : World) (K : PySem.W.Frag) (mg : Str → Option Value) (base : Heap) (k : Nat) (f : Addr) (fd : FuncData) (ps : List Str) (sp : Sp) : Prop where
  len : ∀ vs H Q E, sp vs H Q E → vs.length = ps.length
  run : ∀ (A : Around) (up : List PySem.Env) (s : Shared) (H : Hp) (args : Args) (us : List Value) (vs : List V) (Q : VK) (E : XK), RoomG k A → Env0 P w K mg base A up s H → BindsTo s fd args (ps.zip us) → Vals vs us → sp vs H Q E →
    codeAny (model P w) A (.call (.ref f) args) (CR (L2.CX P w) up P w H s Q E) s
theorem FnG.mono {P : Program} {w : World} {K : PySem.W.Frag} {mg : Str → Option Value} {base : Heap} {j k : Nat} {f : Addr} {fd : FuncData} {ps : List Str} {sp : Sp} (F : FnG P w K mg base j f fd ps sp) (h : j ≤ k) : FnG P w K mg base k f fd ps sp :=
  ⟨F.len, fun A up s H args us vs Q E hr => F.run A up s H args us vs Q E (hr.mono h)⟩
/-- a promise that nobody can ask -/
theorem FnG.never {P : Program} {w : World} {K : PySem.W.Frag} {mg : Str → Option Value} {base : Heap} {k : Nat} {f : Addr} {fd : FuncData} {ps : List Str} {sp : Sp} (h : ∀ vs H Q E, ¬ sp vs H Q E) : FnG P w K mg base k f fd ps sp :=
  ⟨fun vs H Q E z => (h vs H Q E z).elim, fun _ _ _ H _ _ vs Q E _ _ _ _ z => (h vs H Q E z).elim⟩
theorem takesW0 {X : Cx} : Takes X (fun _ _ _ _ => False) := fun _ _ ⟨_, _, _, _, _, _, _, _, _, _, _, _, _, _, _, _, z⟩ => z.elim
section
variable {X : Cx} {W : WX} {k : Nat} {f : Addr} {fd : FuncData} {ps : List Str} {sp : Sp} {dvs : List V} {ds : List Value}
/-- the callee of any rule runs -/
theorem run_g {pins : List (Addr × Obj)} {g : St} {H : Hp} {s : Shared} {Q : VK} {us : List Value} {vs : List V} (F : FnG X.prog X.w X.K X.mg X.base k f fd ps sp) (hr : RoomG k X.A) (hb : Binds X.K fd ps ds) (hd : Vals dvs ds) (tk : Takes X W)
    (I : Inv X pins g H s) (r : Vals vs us) (h : sp (vs ++ dvs) H Q (fun c d H' => W c d g H')) : wpAny (model X.prog X.w) X.A (call (.ref f) us) (EP X pins g Q) X.xe s := by
  have r2 := r.append hd
  have hl : (us ++ ds).length = ps.length := by
    rw [← r2.length]
    exact F.len _ _ _ _ h
  refine wpAny_call (codeAny_mono (F.run X.A X.stack s H ⟨us, []⟩ _ _ Q _ hr I.env0 (hb s us I.kIn hl) r2 h) fun rr s' z => ?_)
  match rr, z with
  | .error e, z => exact tk e s' (XE.of_call I (fun _ _ _ q => q) z)
  | .ok (.ret u), z => exact I.after z
  | .ok .next, z => exact z.elim
  | .ok .brk, z => exact z.elim
  | .ok .cont, z => exact z.elim
end
def Lx (L : Addr → Prop) (io : List Addr) : Addr → Prop := fun a => L a ∨ a ∈ io
abbrev DF := Sto → List Dv → Res Dv
/-- a def's promise: called with such data in such a store it gives g's answer -/
def spD (K : PySem.W.Frag) (g : DF) : Sp := fun vs H Q E => ∃ (L : Addr → Prop) (io : List Addr) (S : Sto) (l : List Dv), SR K L io H S ∧ VRs K L io H vs l ∧ match g S l with
  | .ok d S' => ∀ (v : V) (H' : Hp) (io' : List Addr), Stp L io H (Lx L io') io' H' → SR K (Lx L io') io' H' S' → VR K (Lx L io') io' H' v d → Q v H'
  | .ex c fs S' => ∀ (x : Option Addr) (H' : Hp) (io' : List Addr), Stp L io H (Lx L io') io' H' → SR K (Lx L io') io' H' S' → ExR K (Lx L io') io' H' x fs → E (.ref (He.ga K c)) x H'
  | .no => False
/-- the answer of none -/
def gNo : DF := fun _ _ => .no
theorem spD_no {K : PySem.W.Frag} : ∀ vs H Q E, ¬ spD K gNo vs H Q E := fun _ _ _ _ ⟨_, _, _, _, _, _, z⟩ => z
/-- a def's promise from what is wished behind it -/
theorem spD_fin {K : PySem.W.Frag} {W : WX} {g : DF} {st : St} {L : Addr → Prop} {io : List Addr} {H : Hp} {S : Sto} {vs : List V} {l : List Dv} {Q : VK} (sr : SR K L io H S) (r : VRs K L io H vs l) (q : Fin K W (VR K) st L io H Q (g S l)) : spD K g vs H Q (fun c d H' => W c d st H') := by
  refine ⟨L, io, S, l, sr, r, ?_⟩
  cases h : g S l with
  | ok d S' => rw [h] at q; exact fun v H' io' s sr r => q v H' _ io' s sr r
  | ex c fs S' => rw [h] at q; exact fun v H' io' s sr r => q v H' _ io' s sr r
  | no => rw [h] at q; exact q
/-- the def that the module's name x stands for answers as g; dl: the data of the defaults that a call without them takes -/
def FD (P : Program) (w : World) (K : PySem.W.Frag) (mg : Str → Option Value) (base : Heap) (k : Nat) (x : Str) (g : DF) : Prop :=
  ∃ (f : Addr) (fd : FuncData) (ps : List Str), FnG P w K mg base k f fd ps (spD K g) ∧ mg x = some (.ref f) ∧ f = He.ga K x ∧ PySem.W.keepIn K (.ref f) = true ∧ Binds K fd ps []
def eCall (g : DF) (fa : DA) : DE := fun e S => bnd (fa e S) fun l S1 => g S1 l
section
variable {X : Cx} {W : WX} {k i : Nat} {x : Str} {g : DF} {p pos : Pos} {e : Expr} {es : List Expr} {fa : DA}
theorem qe_call (F : FD X.prog X.w X.K X.mg X.base k x g) (hr : RoomG (k + 1) X.A) (tk : Takes X W) (ha : QA X W (e :: es) fa) (hg : Gl X x := by rfl) (hdb : (x == ("__debug__" : Str)) = false := by decide) (he : starEach (e :: es) X.env = (false, eval e X.env) :: starEach es X.env := by rfl) (hpl : (backTo pos (starEach es X.env)).any (·.1) = false := by rfl) :
    QE X W (.Call (.Name x p) (e :: es) [] pos) (eCall g fa) := by
  obtain ⟨f, fd, ps, F, hm, _, hk, hb⟩ := F
  refine ⟨fun pins s st H Q I q => wpAny_Call_Name_kw (ld_glob I hg hm ?_ hdb)⟩
  refine PySem.W.callWith_K (h₀ := X.base) I.ok.mod.kin hk (thn (ha.run pos pins s st H (fun vs H1 => spD X.K g vs H1 Q fun c d H' => W c d st H') I ?_) fun us s1 ⟨vs, H1, I1, r, q⟩ => ⟨I1.kIn, run_g F hr.low hb .nil tk I1 r (by rw [List.append_nil]; exact q)⟩) he hpl
  exact Rdg.bind (R := VRs X.K) (k := fun _ l S1 => g S1 l) q fun L0 io0 H0 L io H1 e S l v fr rv q => spD_fin fr.st rv q
/-- fits(..), fits a name of this def that stands for a def of the module; t: what the defs answer -/
def eCallL (t : Str → Option DF) (i : Nat) (fa : DA) : DE := fun e S => match e[i]? with
  | some (.va (.glo x)) => match t x with
    | some g => bnd (fa e S) fun l S1 => g S1 l
    | none => .no
  | _ => .no
end
end DL
namespace DL
open PySem L2
structure Stw (L : Addr → Prop) (io : List Addr) (H : Hp) (L' : Addr → Prop) (io' : List Addr) (H' : Hp) : Prop where
  pre : ∃ more, io' = io ++ more
  new : ∀ a, L' a → L a ∨ H a = none
  keep : ∀ a o, H a = some o → ¬ L a → H' a = some o
section
variable {K : PySem.W.Frag} {L L1 L2 L' : Addr → Prop} {io io1 io2 io' : List Addr} {H H1 H2 H' : Hp} {S : Sto}
theorem Stw.refl (L : Addr → Prop) (io : List Addr) (H : Hp) : Stw L io H L io H := ⟨⟨[], by simp⟩, fun _ h => .inl h, fun _ _ h _ => h⟩
theorem Stp.stw (s : Stp L io H L' io' H') (sub : ∀ x ∈ io, L x) : Stw L io H L' io' H' := ⟨s.pre, s.new, fun a o h n => s.keep a o h fun z => n (sub a z)⟩
theorem Stw.trans (a : Stw L io H L1 io1 H1) (b : Stw L1 io1 H1 L2 io2 H2) : Stw L io H L2 io2 H2 where
  pre := by
    obtain ⟨m, rfl⟩ := a.pre
    obtain ⟨m1, rfl⟩ := b.pre
    exact ⟨m ++ m1, by simp⟩
  new := fun x h => by
    rcases b.new x h with h1 | h1
    · exact a.new x h1
    · cases e : H x with
      | none => exact .inr rfl
      | some o =>
        by_cases hl : L x
        · exact .inl hl
        · rw [a.keep x o e hl] at h1; cases h1
  keep := fun x o h n => b.keep x o (a.keep x o h n) fun z => by
    rcases a.new x z with q | q
    · exact n q
    · rw [q] at h; cases h
theorem Stw.on (s : Stw L io H L' io' H') : (∀ (k : Nat) (a : Addr), io[k]? = some a → io'[k]? = some a) ∧ (∀ a o, H a = some o → ¬ L a → H' a = some o ∧ ¬ L' a) := by
  refine ⟨fun k a h => ?_, fun a o h nl => ⟨s.keep a o h nl, fun z => ?_⟩⟩
  · obtain ⟨m, rfl⟩ := s.pre
    exact io_keep h
  · rcases s.new a z with q | q
    · exact nl q
    · rw [q] at h; cases h
theorem VR.stw {v : V} {d : Dv} (h : VR K L io H v d) (s : Stw L io H L' io' H') : VR K L' io' H' v d := VR.on s.on.1 s.on.2 h
theorem VRs.stw {v : List V} {d : List Dv} (h : VRs K L io H v d) (s : Stw L io H L' io' H') : VRs K L' io' H' v d := VRs.on s.on.1 s.on.2 h
/-- a volatile thing that is no handle's is changed -/
theorem SR.mut {p : Addr} {o : HO} (s : SR K L io H S) (hp : L p) (hn : p ∉ io) : SR K L io (upd H p o) S where
  len := s.len
  nd := s.nd
  sub := s.sub
  dom := fun a ha => by
    by_cases e : a = p
    · rw [e, upd_same]; exact fun z => nomatch z
    · rw [upd_ne e]; exact s.dom a ha
  obj := fun k a ob h1 h2 => (s.obj k a ob h1 h2).mono (fun u e => by rw [upd_ne (fun z => hn (by rw [← z]; exact List.mem_of_getElem? h1))]; exact e) fun v d r => r.mut hp
theorem Stw.mut {p : Addr} {o : HO} (hp : L p) : Stw L io H L io (upd H p o) := ⟨⟨[], by simp⟩, fun _ h => .inl h, fun a u e n => by rw [upd_ne (fun z => n (by rw [z]; exact hp))]; exact e⟩
/-- a new thing, volatile from now on -/
def Ly (L : Addr → Prop) (p : Addr) : Addr → Prop := fun a => L a ∨ a = p
def Lz (L : Addr → Prop) (p : Addr) : Addr → Prop := fun a => L a ∧ a ≠ p
theorem Stp.newV {p : Addr} {o : HO} (hp : H p = none) : Stp L io H (Ly L p) io (upd H p o) :=
  ⟨⟨[], by simp⟩, fun _ h => .inl h, fun a h => h.elim .inl fun e => .inr (by rw [e]; exact hp), fun a u e _ => by rw [upd_ne (ne_of_none e hp)]; exact e, fun _ h => .inl h⟩
theorem SR.newV {p : Addr} {o : HO} (s : SR K L io H S) (hp : H p = none) : SR K (Ly L p) io (upd H p o) S where
  len := s.len
  nd := s.nd
  sub := fun a h => .inl (s.sub a h)
  dom := fun a ha => by
    by_cases e : a = p
    · rw [e, upd_same]; exact fun z => nomatch z
    · rw [upd_ne e]; exact s.dom a (ha.elim id fun z => absurd z e)
  obj := fun k a ob h1 h2 => (s.obj k a ob h1 h2).mono (fun u e => by rw [upd_ne (ne_of_none e hp)]; exact e) fun v d r => r.step (Stp.newV hp) s.sub
/-- fewer volatile things -/
theorem SR.less (s : SR K L io H S) (hl : ∀ a, L' a → L a) (sub : ∀ a ∈ io, L' a) : SR K L' io H S :=
  ⟨s.len, s.nd, sub, fun a h => s.dom a (hl a h), fun k a o h1 h2 => (s.obj k a o h1 h2).mono (fun _ e => e) fun v d r => r.less hl⟩
end
/-- a new list l stands at p (H: the heap ahead of the piece) -/
def NewL (K : PySem.W.Frag) (H : Hp) (L' : Addr → Prop) (io' : List Addr) (H' : Hp) (v : V) (l : List Dv) : Prop := ∃ p xs, v = .ref p ∧ H p = none ∧ L' p ∧ p ∉ io' ∧ H' p = some (.lst xs) ∧ VRs K L' io' H' xs l
abbrev DL := Env → Sto → Res (List Dv)
def FinF (K : PySem.W.Frag) (W : WX) (g : St) (L : Addr → Prop) (io : List Addr) (H : Hp) (Q : V → Hp → Prop) : Res (List Dv) → Prop
  | .ok d S' => ∀ (v : V) (H' : Hp) (L' : Addr → Prop) (io' : List Addr), Stp L io H L' io' H' → SR K L' io' H' S' → NewL K H L' io' H' v d → Q v H'
  | .ex c fs S' => ∀ (x : Option Addr) (H' : Hp) (L' : Addr → Prop) (io' : List Addr), Stp L io H L' io' H' → SR K L' io' H' S' → ExR K L' io' H' x fs → W (.ref (He.ga K c)) x g H'
  | .no => False
def rdF (K : PySem.W.Frag) (W : WX) (f : DL) : TE := fun g H Q => ∃ (L0 : Addr → Prop) (io0 : List Addr) (H0 : Hp) (L : Addr → Prop) (io : List Addr) (e : Env) (S : Sto), FR K L0 io0 H0 L io H g e S ∧ FinF K W g L io H Q (f e S)
abbrev QF (X : Cx) (W : WX) (e : Expr) (f : DL) : Prop := PE X e (rdF X.K W f)
def eFrz (f : DL) : DE := fun e S => bnd (f e S) fun l S' => .ok (.lst l) S'
theorem rd_frz {K : PySem.W.Frag} {W : WX} {f : DL} {g : St} {H : Hp} {Q : VK} (q : rd K W (eFrz f) g H Q) : rdF K W f g H Q := by
  obtain ⟨L0, io0, H0, L, io, e, S, fr, q⟩ := q
  refine ⟨L0, io0, H0, L, io, e, S, fr, ?_⟩
  have q : Fin K W (VR K) g L io H Q (bnd (f e S) fun l S' => .ok (.lst l) S') := q
  cases hf : f e S with
  | no => rw [hf] at q; exact q
  | ex c fs S' => rw [hf] at q; exact q
  | ok l S' =>
    rw [hf] at q
    intro v H' L' io' s sr ⟨p, xs, hv, hp, lp, np, h1, h2⟩
    subst hv
    have hl : ∀ a, Lz L' p a → L' a := fun a z => z.1
    refine q _ H' (Lz L' p) io' ⟨s.pre, s.hn, fun a z => s.new a z.1, s.keep, fun a z => ⟨s.up a z, fun e => fr.st.dom a z (by rw [e]; exact hp)⟩⟩ (sr.less hl fun a ha => ⟨sr.sub a ha, fun e => np (by rw [← e]; exact ha)⟩) (.lst (fun z => z.2 rfl) h1 (h2.less hl))
theorem qe_frz {X : Cx} {W : WX} {a : Expr} {f : DL} (h : QF X W a f) : QE X W a (eFrz f) := pe_imp h fun g H Q q => rd_frz q
section
variable {X : Cx} {W : WX} {pos : Pos} {es : List Expr} {fa : DA}
def fLst (fa : DA) : DL := fun e S => bnd (fa e S) fun l S1 => if l.length ≤ sizeLine then .ok l S1 else .no
theorem FinF.bind {α β : Type} {K : PySem.W.Frag} {R : (Addr → Prop) → List Addr → Hp → β → α → Prop} {f : Env → Sto → Res α} {k : α → Sto → Res (List Dv)} {g : St} {L0 L : Addr → Prop} {io0 io : List Addr} {H0 H : Hp} {e : Env} {S : Sto} {Q : V → Hp → Prop} {P : β → Hp → Prop}
    (fr : FR K L0 io0 H0 L io H g e S) (h : FinF K W g L io H Q (bnd (f e S) k))
    (n : ∀ (L1 : Addr → Prop) (io1 : List Addr) (H1 : Hp) (S1 : Sto) (a : α) (v : β), Stp L io H L1 io1 H1 → FR K L0 io0 H0 L1 io1 H1 g e S1 → R L1 io1 H1 v a → FinF K W g L1 io1 H1 Q (k a S1) → P v H1) : Rdg K W R f g H P := by
  refine ⟨L0, io0, H0, L, io, e, S, fr, ?_⟩
  cases hf : f e S with
  | ok a S1 =>
    rw [hf] at h
    intro v H1 L1 io1 s1 sr1 r1
    have h : FinF K W g L io H Q (k a S1) := h
    refine n L1 io1 H1 S1 a v s1 (fr.step s1 sr1) r1 ?_
    cases hk : k a S1 with
    | ok l S2 =>
      rw [hk] at h
      intro v H' L' io' s2 sr2 ⟨p, xs, e1, e2, e3⟩
      refine h v H' L' io' (s1.trans s2 fr.st.sub) sr2 ⟨p, xs, e1, ?_, e3⟩
      rcases s1.back e2 with z | z
      · exact absurd e2 (sr1.dom p (s1.up p (fr.st.sub p z)))
      · exact z
    | ex c fs S2 =>
      rw [hk] at h
      exact fun v H' L' io' s2 sr r2 => h v H' L' io' (s1.trans s2 fr.st.sub) sr r2
    | no => rw [hk] at h; exact h
  | ex c fs S1 => rw [hf] at h; exact h
  | no => rw [hf] at h; exact h
theorem FinF.new {K : PySem.W.Frag} {g : St} {L : Addr → Prop} {io : List Addr} {H : Hp} {S : Sto} {Q : V → Hp → Prop} {l : List Dv} {xs : List V} (h : FinF K W g L io H Q (.ok l S)) (sr : SR K L io H S) (r : VRs K L io H xs l) : ∀ p, H p = none → Q (.ref p) (upd H p (.lst xs)) := fun p hp =>
  h _ _ (Ly L p) io (Stp.newV hp) (sr.newV hp) ⟨p, xs, rfl, hp, .inr rfl, fun z => sr.dom p (sr.sub p z) hp, upd_same, r.step (Stp.newV hp) sr.sub⟩
theorem qf_lst (h : QA X W es fa) : QF X W (.List es pos) (fLst fa) := pe_imp (pe_lst h) fun g H Q q => by
  obtain ⟨L0, io0, H0, L, io, e, S, fr, q⟩ := q
  refine FinF.bind (R := VRs X.K) (k := fun l S1 => if l.length ≤ sizeLine then .ok l S1 else .no) fr q fun L1 io1 H1 S1 l vs s1 fr1 r1 q => ?_
  split at q
  · rename_i hl
    exact ⟨by rw [r1.len]; exact hl, q.new fr1.st r1⟩
  · exact q.elim
end
end DL
namespace DL
open PySem L2
section
variable {K : PySem.W.Frag} {L0 L : Addr → Prop} {io0 io : List Addr} {H0 H : Hp} {g : St} {e : Env} {S : Sto} {i : Nat}
theorem set_get {α : Type} {l : List α} {i j : Nat} {a b : α} (h : (l.set i a)[j]? = some b) : (j = i ∧ b = a ∧ i < l.length) ∨ (j ≠ i ∧ l[j]? = some b) := by
  rw [List.getElem?_set] at h
  by_cases e : i = j
  · rw [if_pos e] at h
    split at h
    · cases h; exact .inl ⟨e.symm, rfl, by omega⟩
    · cases h
  · rw [if_neg e] at h
    exact .inr ⟨fun z => e z.symm, h⟩
theorem set_ne {α : Type} {l : List α} {i j : Nat} {a : α} (h : j ≠ i) : (l.set i a)[j]? = l[j]? := by
  rw [List.getElem?_set, if_neg (fun z => h z.symm)]
theorem set_at {α : Type} {l : List α} {i : Nat} {a : α} (h : i < l.length) : (l.set i a)[i]? = some a := by
  rw [List.getElem?_set, if_pos rfl, if_pos h]
/-- a slot gets another content, of which the frame's facts hold -/
theorem FR.setS (f : FR K L0 io0 H0 L io H g e S) (i : Nat) {x : Option V} {s : Sl}
    (hva : ∀ d, s = .va d → ∃ v, x = some v ∧ VR K L io H v d)
    (how : ∀ o, s = .own o → ∃ p, x = some (.ref p) ∧ L p ∧ p ∉ io ∧ H0 p = none ∧ ObR K L io H p o)
    (hinj : ∀ p, (∀ d, s ≠ .va d) → s ≠ .no → x = some (.ref p) → ∀ j, j ≠ i → (∀ d, e[j]? ≠ some (.va d)) → e[j]? ≠ some .no → g[j]? ≠ some (some (.ref p))) :
    FR K L0 io0 H0 L io H (g.set i x) (e.set i s) S where
  st := f.st
  len := by rw [List.length_set, List.length_set]; exact f.len
  va := fun j d h => by
    rcases set_get h with ⟨rfl, h1, h2⟩ | ⟨h1, h2⟩
    · obtain ⟨v, rfl, r⟩ := hva d h1.symm
      exact ⟨v, set_at (by rw [f.len]; exact h2), r⟩
    · obtain ⟨v, r1, r2⟩ := f.va j d h2
      exact ⟨v, by rw [set_ne h1]; exact r1, r2⟩
  own := fun j o h => by
    rcases set_get h with ⟨rfl, h1, h2⟩ | ⟨h1, h2⟩
    · obtain ⟨p, rfl, r⟩ := how o h1.symm
      exact ⟨p, set_at (by rw [f.len]; exact h2), r⟩
    · obtain ⟨p, r1, r2⟩ := f.own j o h2
      exact ⟨p, by rw [set_ne h1]; exact r1, r2⟩
  inj := fun j k p hjk v1 v2 n1 n2 h1 h2 => by
    have lg : ∀ {j : Nat} {z : Option V}, (g.set i x)[j]? = some z → j < e.length := fun {j z} h => by
      have := (List.getElem?_eq_some_iff.mp h).1
      rw [List.length_set, f.len] at this
      exact this
    by_cases ej : j = i
    · subst ej
      have ek : k ≠ j := fun z => hjk z.symm
      have hl := lg h1
      rw [set_at hl] at v1 n1
      rw [set_ne ek] at v2 n2 h2
      rw [set_at (by rw [f.len]; exact hl)] at h1
      exact hinj p (fun d z => v1 d (by rw [z])) (fun z => n1 (by rw [z])) (Option.some.inj h1) k ek v2 n2 h2
    · by_cases ek : k = i
      · subst ek
        have hl := lg h2
        rw [set_at hl] at v2 n2
        rw [set_ne ej] at v1 n1 h1
        rw [set_at (by rw [f.len]; exact hl)] at h2
        exact hinj p (fun d z => v2 d (by rw [z])) (fun z => n2 (by rw [z])) (Option.some.inj h2) j ej v1 n1 h1
      · rw [set_ne ej] at v1 n1 h1
        rw [set_ne ek] at v2 n2 h2
        exact f.inj j k p hjk v1 v2 n1 n2 h1 h2
  en := f.en
  sub0 := f.sub0
  dom0 := f.dom0
theorem FR.setV (f : FR K L0 io0 H0 L io H g e S) (i : Nat) {v : V} {d : Dv} (r : VR K L io H v d) : FR K L0 io0 H0 L io H (g.set i (some v)) (e.set i (.va d)) S :=
  f.setS i (fun d' h => by cases h; exact ⟨v, rfl, r⟩) (fun l h => by cases h) (fun p h => absurd rfl (h d))
theorem FR.setN (f : FR K L0 io0 H0 L io H g e S) (i : Nat) (x : Option V) : FR K L0 io0 H0 L io H (g.set i x) (e.set i .no) S :=
  f.setS i (fun d' h => by cases h) (fun l h => by cases h) (fun p _ h => absurd rfl h)
/-- a volatile thing that no slot of its own holds is changed -/
theorem FR.mutD (f : FR K L0 io0 H0 L io H g e S) {p : Addr} {o : HO} (lp : L p) (np : p ∉ io) (h0 : H0 p = none)
    (hne : ∀ (i : Nat) (q : Addr), (∀ d, e[i]? ≠ some (.va d)) → e[i]? ≠ some .no → e[i]? ≠ none → g[i]? = some (some (.ref q)) → q ≠ p) : FR K L0 io0 H0 L io (upd H p o) g e S where
  st := f.st.mut lp np
  len := f.len
  va := fun i d h => by
    obtain ⟨v, h1, h2⟩ := f.va i d h
    exact ⟨v, h1, h2.mut lp⟩
  own := fun i o h => by
    obtain ⟨q, h1, h2, h3, h4, h5⟩ := f.own i o h
    have : q ≠ p := hne i q (by rw [h]; intro d z; cases z) (by rw [h]; intro z; cases z) (by rw [h]; intro z; cases z) h1
    exact ⟨q, h1, h2, h3, h4, ObR.mono (o := o) h5 (fun u h => by rw [upd_ne this]; exact h) fun v d r => r.mut lp⟩
  inj := f.inj
  en := ⟨f.en.pre, f.en.hn, f.en.new, fun a u h n => by rw [upd_ne (ne_of_none h h0)]; exact f.en.keep a u h n, f.en.up⟩
  sub0 := f.sub0
  dom0 := f.dom0
/-- what a slot of its own holds stands in the heap -/
theorem FR.ownAt (f : FR K L0 io0 H0 L io H g e S) {i : Nat} {q : Addr} (h1 : ∀ d, e[i]? ≠ some (.va d)) (h2 : e[i]? ≠ some .no) (h3 : e[i]? ≠ none) (hg : g[i]? = some (some (.ref q))) : ∃ o, H q = some o ∧ L q := by
  cases h : e[i]? with
  | none => exact absurd h h3
  | some s =>
    cases s with
    | no => exact absurd h h2
    | va d => exact absurd h (h1 d)
    | own o =>
      obtain ⟨p, e1, e2, _, _, e3⟩ := f.own i o h
      rw [hg] at e1
      cases e1
      obtain ⟨u, e4⟩ := ObR.has (o := o) e3
      exact ⟨_, e4, e2⟩
theorem FR.fresh0 (f : FR K L0 io0 H0 L io H g e S) {p : Addr} (h : H p = none) : H0 p = none := by
  rcases f.en.back h with z | z
  · exact absurd h (f.st.dom p (f.en.up p (f.sub0 p z)))
  · exact z
def wipeE (e : Env) : List Nat → Env
  | [] => e
  | v :: vs => (wipeE e vs).set v .no
theorem FR.wipe (f : FR K L0 io0 H0 L io H g e S) : ∀ vs : List Nat, FR K L0 io0 H0 L io H (L2.wipe g vs) (wipeE e vs) S
  | [] => f
  | v :: vs => (FR.wipe f vs).setN v none
end
theorem wipe_get (g : St) : ∀ (vs : List Nat) (k : Nat), (L2.wipe g vs)[k]? = if k ∈ vs then (if k < g.length then some none else none) else g[k]?
  | [], k => by simp [L2.wipe]
  | v :: vs, k => by
    unfold L2.wipe
    rw [List.getElem?_set, L2.wipe_length, wipe_get g vs k]
    by_cases e : v = k
    · subst e; simp
    · rw [if_neg e]
      have : (k ∈ v :: vs) ↔ k ∈ vs := by simp [Ne.symm (a := v) (b := k) e]
      simp only [this]
theorem wipe_ext {g g' : St} {vs : List Nat} (hl : g'.length = g.length) (h : ∀ k, k ∉ vs → g'[k]? = g[k]?) : L2.wipe g' vs = L2.wipe g vs := by
  apply List.ext_getElem?
  intro k
  rw [wipe_get, wipe_get, hl]
  by_cases e : k ∈ vs
  · rw [if_pos e, if_pos e]
  · rw [if_neg e, if_neg e, h k e]
abbrev DG := Dv → Env → Option Env
def TGok (K : PySem.W.Frag) (t : TG) (gd : DG) (vs : List Nat) : Prop := ∀ (L0 : Addr → Prop) (io0 : List Addr) (H0 : Hp) (L : Addr → Prop) (io : List Addr) (H : Hp) (g : St) (e : Env) (S : Sto) (v : V) (d : Dv) (e' : Env) (Q : St → Hp → Prop),
  FR K L0 io0 H0 L io H g e S → VR K L io H v d → gd d e = some e' → (∀ g', FR K L0 io0 H0 L io H g' e' S → g'.length = g.length → (∀ k, k ∉ vs → g'[k]? = g[k]?) → Q g' H) → t v g H Q
def tgR (K : PySem.W.Frag) (gd : DG) (vs : List Nat) : TG := fun v g H Q => ∃ (L0 : Addr → Prop) (io0 : List Addr) (H0 : Hp) (L : Addr → Prop) (io : List Addr) (e : Env) (S : Sto) (d : Dv) (e' : Env), FR K L0 io0 H0 L io H g e S ∧ VR K L io H v d ∧ gd d e = some e' ∧
  ∀ g', FR K L0 io0 H0 L io H g' e' S → g'.length = g.length → (∀ k, k ∉ vs → g'[k]? = g[k]?) → Q g' H
theorem tgR_ok {K : PySem.W.Frag} {gd : DG} {vs : List Nat} : TGok K (tgR K gd vs) gd vs := fun L0 io0 H0 L io H g e S v d e' Q fr r h q => ⟨L0, io0, H0, L, io, e, S, d, e', fr, r, h, q⟩
/-- a target, and the slots that it may change -/
def QG (X : Cx) (tg : Expr) (gd : DG) (vs : List Nat) : Prop := ∃ t, PG X tg t ∧ TGok X.K t gd vs
theorem QG.canon {X : Cx} {tg : Expr} {gd : DG} {vs : List Nat} (h : QG X tg gd vs) : PG X tg (tgR X.K gd vs) := by
  obtain ⟨t, p, o⟩ := h
  refine ⟨fun pins s g H v u Q I r q => p.run pins s g H v u Q I r ?_⟩
  obtain ⟨L0, io0, H0, L, io, e, S, d, e', fr, rv, hd, q⟩ := q
  exact o L0 io0 H0 L io H g e S v d e' Q fr rv hd q
def gN (i : Nat) : DG := fun d e => some (e.set i (.va d))
abbrev DGs := List Dv → Env → Option Env
def gsCons (g : DG) (gs : DGs) : DGs := fun l e => match l with
  | d :: r => (g d e).bind fun e' => gs r e'
  | [] => none
def gT (gs : DGs) : DG := fun d e => (asT d).bind fun l => gs l e
section
variable {X : Cx} {pos : Pos} {x : Str} {i : Nat} {tg : Expr} {ts : List Expr} {gd : DG} {gds : DGs} {vs ws : List Nat} {n : Nat}
theorem qg_name (hN : X.N.Nodup) (i : Nat) (hi : X.N[i]? = some x := by rfl) (hx : Loc X.env.scope x := by first | exact Or.inl rfl | exact Or.inr rfl) (hf : X.fn x = true ∨ X.env.scope.names.lookup x = some .local := by first | exact .inl rfl | exact .inr rfl) : QG X (.Name x pos) (gN i) [i] := by
  refine ⟨gName i, pg_name hN hi hx hf, fun L0 io0 H0 L io H g e S v d e' Q fr r h q => ?_⟩
  cases h
  exact q _ (fr.setV i r) (List.length_set ..) fun k hk => set_ne (by simpa using hk)
end
structure WalkR (K : PySem.W.Frag) (L : Addr → Prop) (io : List Addr) (H : Hp) (J : It) (l : List Dv) : Prop where
  go : ∀ (L1 : Addr → Prop) (io1 : List Addr) (H1 : Hp) (S : Sto) (i : Nat) (d : Dv), Stw L io H L1 io1 H1 → SR K L1 io1 H1 S → l[i]? = some d → J.go i H1 ∧ ∀ x H2, J.yld i H1 x H2 → SR K L1 io1 H2 S ∧ Stp L1 io1 H1 L1 io1 H2 ∧ VR K L1 io1 H2 x d
  stop : ∀ (L1 : Addr → Prop) (io1 : List Addr) (H1 : Hp), Stw L io H L1 io1 H1 → J.stop l.length H1
def FinI (K : PySem.W.Frag) (W : WX) (g : St) (L : Addr → Prop) (io : List Addr) (H : Hp) (R : It → Hp → Prop) : Res (List Dv) → Prop
  | .ok l S' => ∀ (J : It) (H' : Hp) (L' : Addr → Prop) (io' : List Addr), Stp L io H L' io' H' → SR K L' io' H' S' → WalkR K L' io' H' J l → R J H'
  | .ex c fs S' => ∀ (x : Option Addr) (H' : Hp) (L' : Addr → Prop) (io' : List Addr), Stp L io H L' io' H' → SR K L' io' H' S' → ExR K L' io' H' x fs → W (.ref (He.ga K c)) x g H'
  | .no => False
def rdi (K : PySem.W.Frag) (W : WX) (f : DL) : TI := fun g H R => ∃ (L0 : Addr → Prop) (io0 : List Addr) (H0 : Hp) (L : Addr → Prop) (io : List Addr) (e : Env) (S : Sto), FR K L0 io0 H0 L io H g e S ∧ FinI K W g L io H R (f e S)
abbrev QI (X : Cx) (W : WX) (tg e : Expr) (f : DL) : Prop := PI X tg e (rdi X.K W f)
theorem FinI.bind {α β : Type} {K : PySem.W.Frag} {W : WX} {R : (Addr → Prop) → List Addr → Hp → β → α → Prop} {f : Env → Sto → Res α} {k : α → Sto → Res (List Dv)} {g : St} {L0 L : Addr → Prop} {io0 io : List Addr} {H0 H : Hp} {e : Env} {S : Sto} {Q : It → Hp → Prop} {P : β → Hp → Prop}
    (fr : FR K L0 io0 H0 L io H g e S) (h : FinI K W g L io H Q (bnd (f e S) k))
    (n : ∀ (L1 : Addr → Prop) (io1 : List Addr) (H1 : Hp) (S1 : Sto) (a : α) (v : β), Stp L io H L1 io1 H1 → FR K L0 io0 H0 L1 io1 H1 g e S1 → R L1 io1 H1 v a → FinI K W g L1 io1 H1 Q (k a S1) → P v H1) : Rdg K W R f g H P := by
  refine ⟨L0, io0, H0, L, io, e, S, fr, ?_⟩
  cases hf : f e S with
  | ok a S1 =>
    rw [hf] at h
    intro v H1 L1 io1 s1 sr1 r1
    have h : FinI K W g L io H Q (k a S1) := h
    refine n L1 io1 H1 S1 a v s1 (fr.step s1 sr1) r1 ?_
    cases hk : k a S1 with
    | ok l S2 =>
      rw [hk] at h
      exact fun v H' L' io' s2 sr r2 => h v H' L' io' (s1.trans s2 fr.st.sub) sr r2
    | ex c fs S2 =>
      rw [hk] at h
      exact fun v H' L' io' s2 sr r2 => h v H' L' io' (s1.trans s2 fr.st.sub) sr r2
    | no => rw [hk] at h; exact h
  | ex c fs S1 => rw [hf] at h; exact h
  | no => rw [hf] at h; exact h
section
variable {K : PySem.W.Frag} {L : Addr → Prop} {io : List Addr} {H : Hp}
theorem SqT.stw {a : Addr} {xs : List V} {ds : List Dv} {L1 : Addr → Prop} {io1 : List Addr} {H1 : Hp} {v : V} (r : VR K L io H v (.tup ds)) (s : Stw L io H L1 io1 H1) : ∃ a xs, v = .ref a ∧ SqT K H1 a xs ∧ VRs K L1 io1 H1 xs ds := (r.stw s).tupS
theorem walk_tup {a : Addr} {ds : List Dv} (r : VR K L io H (.ref a) (.tup ds)) : WalkR K L io H (Itt K a) ds where
  go := fun L1 io1 H1 S i d s sr h => by
    obtain ⟨a', xs, e, hs, t⟩ := (r.stw s).tupS
    cases e
    obtain ⟨v, h1, h2⟩ := t.get h
    refine ⟨⟨xs, v, hs, h1⟩, fun x H2 ⟨e, y⟩ => ?_⟩
    subst e
    have := y xs hs
    rw [h1] at this
    cases this
    exact ⟨sr, Stp.refl .., h2⟩
  stop := fun L1 io1 H1 s => by
    obtain ⟨a', xs, e, hs, t⟩ := (r.stw s).tupS
    cases e
    exact ⟨xs, hs, by rw [t.len]; exact Nat.le_refl _⟩
/-- a list that no handle holds -/
def asF : Dv → Option (List Dv)
  | .lst l => some l
  | .rol l => some l
  | _ => none
theorem asF_ok {v : V} {d : Dv} {l : List Dv} (r : VR K L io H v d) (h : asF d = some l) : ∃ a xs, v = .ref a ∧ SqL K H a xs ∧ VRs K L io H xs l := by
  cases r with
  | lst nl e t => cases h; exact ⟨_, _, rfl, SqL.of e, t⟩
  | rol nl e t => cases h; exact ⟨_, _, rfl, .inl e, t⟩
  | rolK e t => cases h; exact ⟨_, _, rfl, e H, t⟩
  | _ => cases h
theorem walk_lst {a : Addr} {d : Dv} {ds : List Dv} (r : VR K L io H (.ref a) d) (h : asF d = some ds) : WalkR K L io H (Itl K a) ds where
  go := fun L1 io1 H1 S i d s sr hd => by
    obtain ⟨a', xs, e, hs, t⟩ := asF_ok (r.stw s) h
    cases e
    obtain ⟨v, h1, h2⟩ := t.get hd
    refine ⟨⟨xs, v, hs, h1⟩, fun x H2 ⟨e, y⟩ => ?_⟩
    subst e
    have := y xs hs
    rw [h1] at this
    cases this
    exact ⟨sr, Stp.refl .., h2⟩
  stop := fun L1 io1 H1 s => by
    obtain ⟨a', xs, e, hs, t⟩ := asF_ok (r.stw s) h
    cases e
    exact ⟨xs, hs, by rw [t.len]; exact Nat.le_refl _⟩
def rngD (lo : Int) (n : Nat) : List Dv := (List.range n).map fun (i : Nat) => Dv.int (lo + (i : Int))
theorem walk_rng {lo : Int} {n : Nat} : WalkR K L io H (Itr lo n) (rngD lo n) where
  go := fun L1 io1 H1 S i d s sr hd => by
    unfold rngD at hd
    rw [List.getElem?_map] at hd
    cases e : (List.range n)[i]? with
    | none => rw [e] at hd; cases hd
    | some j =>
      rw [e] at hd
      have hi := (List.getElem?_eq_some_iff.mp e)
      obtain ⟨h1, h2⟩ := hi
      rw [List.getElem_range] at h2
      subst h2
      cases hd
      rw [List.length_range] at h1
      refine ⟨h1, fun x H2 ⟨e, y⟩ => ?_⟩
      subst e y
      exact ⟨sr, Stp.refl .., .int _⟩
  stop := fun L1 io1 H1 s => by
    show n ≤ (rngD lo n).length
    unfold rngD
    rw [List.length_map, List.length_range]
    exact Nat.le_refl _
end
section
variable {X : Cx} {W : WX} {pos p : Pos} {tg a b : Expr} {f f2 : DE}
/-- what pyIter gives of a value -/
def IterR (X : Cx) (tg : Expr) (r : V → Hp → (It → Hp → Prop) → Prop) : Prop := ∀ (pins : List (Addr × Obj)) (s : Shared) (g : St) (H : Hp) (x : V) (v : Value) (R : It → Hp → Prop), Inv X pins g H s → RelV x v → r x H R → wpAny (model X.prog X.w) X.A (pyIter v) (PIE X pins g tg R) X.xe s
theorem IterR.or' {r r' : V → Hp → (It → Hp → Prop) → Prop} (h : IterR X tg r) (h' : IterR X tg r') : IterR X tg (fun x H R => r x H R ∨ r' x H R) := fun pins s g H x v R I rx q => q.elim (h pins s g H x v R I rx) (h' pins s g H x v R I rx)
theorem pi_of {l : Expr} {tl : TE} {r : V → Hp → (It → Hp → Prop) → Prop} (hl : PE X l tl) (hr : IterR X tg r) : PI X tg l (fun g H R => tl g H fun x H1 => r x H1 R) :=
  ⟨fun pins s g H R I h => thn (hl.run pins s g H _ I h) fun v s1 ⟨x, H1, I1, r1, q1⟩ => hr pins s1 g H1 x v R I1 r1 q1⟩
theorem iter_lst : IterR X tg (fun x H R => ∃ a, x = .ref a ∧ (∃ xs, SqL X.K H a xs) ∧ R (Itl X.K a) H) := by
  rintro pins s g H x v R I rx ⟨a, rfl, ⟨xs, hq⟩, q⟩
  obtain rfl : v = .ref a := rx
  obtain ⟨its, rv, p, hz⟩ := I.list hq
  exact wpAny_pyIter_list p.isList ⟨_, _, _, _, H, rfl, I.kept (t' := s.toks) fun b o e => Heap.get?_push_of_some _ e, turn_list a _, ⟨_, Heap.get?_push_size _ rfl, rfl, rfl⟩, fun b hb => by
    rw [show b = s.heap.objs.size from by simpa using hb]
    exact I.fpOk (Nat.le_refl _) (I.hok.fresh (Nat.le_refl _)), q⟩
theorem iter_tup : IterR X tg (fun x H R => ∃ a, x = .ref a ∧ (∃ xs, SqT X.K H a xs) ∧ R (Itt X.K a) H) := by
  rintro pins s g H x v R I rx ⟨a, rfl, ⟨xs, hq⟩, q⟩
  obtain rfl : v = .ref a := rx
  obtain ⟨its, rv, p, hz⟩ := I.tuple hq
  exact wpAny_pyIter_tuple (show s.heap.IsTuple a its.toArray from p) ⟨_, _, _, _, H, rfl, I.kept (t' := s.toks) fun b o e => Heap.get?_push_of_some _ e, turn_tuple a _, ⟨_, Heap.get?_push_size _ rfl, rfl, rfl⟩, fun b hb => by
    rw [show b = s.heap.objs.size from by simpa using hb]
    exact I.fpOk (Nat.le_refl _) (I.hok.fresh (Nat.le_refl _)), q⟩
theorem iter_str : IterR X tg (fun x H R => ∃ z, x = .str z ∧ R (Its z) H) := by
  rintro pins s g H x v R I rx ⟨z, rfl, q⟩
  obtain ⟨t, rfl⟩ := rx
  cases ha : z.cps.all (· < 128)
  · exact wpAny_pyIter_wide ha (pi_one (tk := s.toks) I _ (turn_str _ z t "str_iterator" (.inr rfl)) ⟨_, Heap.get?_push_size _ rfl, rfl, rfl⟩ q)
  · exact wpAny_pyIter_ascii ha (pi_one (tk := s.toks) I _ (turn_str _ z t "str_ascii_iterator" (.inl rfl)) ⟨_, Heap.get?_push_size _ rfl, rfl, rfl⟩ q)
def strL (z : Str) : List Dv := z.cps.toList.map fun c => Dv.str ⟨#[c]⟩
theorem walk_str {K : PySem.W.Frag} {L : Addr → Prop} {io : List Addr} {H : Hp} {z : Str} : WalkR K L io H (Its z) (strL z) where
  go := fun L1 io1 H1 S i d s sr hd => by
    unfold strL at hd
    rw [List.getElem?_map] at hd
    cases e : z.cps.toList[i]? with
    | none => rw [e] at hd; cases hd
    | some c =>
      rw [e] at hd
      cases hd
      have hi := (List.getElem?_eq_some_iff.mp e).1
      refine ⟨(by simpa using hi : i < z.cps.size), fun x H2 ⟨e2, c', y1, y2⟩ => ?_⟩
      subst e2 y2
      have : c' = c := by
        rw [Array.getElem?_toList] at e
        rw [e] at y1
        exact (Option.some.inj y1).symm
      subst this
      exact ⟨sr, Stp.refl .., .str _⟩
  stop := fun L1 io1 H1 s => by
    show z.cps.size ≤ (strL z).length
    unfold strL
    simp
def seqR (d : Dv) (S : Sto) : Res (List Dv) := match d with
  | .tup l => .ok l S
  | .lst l => .ok l S
  | .rol l => .ok l S
  | .str z => .ok (strL z) S
  | _ => .no
def iSq (f : DE) : DL := fun e S => bnd (f e S) seqR
theorem qi_seq (h : QE X W a f) : QI X W tg a (iSq f) := by
  have hp := pi_of h (IterR.or' (iter_lst (X := X) (tg := tg)) (IterR.or' iter_tup iter_str))
  refine ⟨fun pins s g H R I q => hp.run pins s g H R I ?_⟩
  obtain ⟨L0, io0, H0, L, io, e, S, fr, q⟩ := q
  refine FinI.bind (R := VR X.K) (k := seqR) fr q fun L1 io1 H1 S1 d v s1 fr1 r1 q => ?_
  cases d with
  | tup l =>
    obtain ⟨a, xs, rfl, hs, t⟩ := r1.tupS
    exact .inr (.inl ⟨a, rfl, ⟨xs, hs⟩, q _ H1 L1 io1 (Stp.refl ..) fr1.st (walk_tup r1)⟩)
  | lst l =>
    obtain ⟨a, xs, rfl, hs, t⟩ := asF_ok r1 rfl
    exact .inl ⟨a, rfl, ⟨xs, hs⟩, q _ H1 L1 io1 (Stp.refl ..) fr1.st (walk_lst r1 rfl)⟩
  | rol l =>
    obtain ⟨a, xs, rfl, hs, t⟩ := asF_ok r1 rfl
    exact .inl ⟨a, rfl, ⟨xs, hs⟩, q _ H1 L1 io1 (Stp.refl ..) fr1.st (walk_lst r1 rfl)⟩
  | str z =>
    cases r1
    exact .inr (.inr ⟨z, rfl, q _ H1 L1 io1 (Stp.refl ..) fr1.st walk_str⟩)
  | _ => exact q.elim
def rngR1 : List Dv → Sto → Res (List Dv)
  | [.int j], S => if -(2 ^ 62) ≤ j ∧ j < 2 ^ 62 then .ok (rngD 0 j.toNat) S else .no
  | _, _ => .no
def rngR2 : List Dv → Sto → Res (List Dv)
  | [.int i, .int j], S => if -(2 ^ 62) ≤ i ∧ i < 2 ^ 62 ∧ -(2 ^ 62) ≤ j ∧ j < 2 ^ 62 then .ok (rngD i (j - i).toNat) S else .no
  | _, _ => .no
def iRng1' (fa : DA) : DL := fun e S => bnd (fa e S) rngR1
def iRng2' (fa : DA) : DL := fun e S => bnd (fa e S) rngR2
theorem qi_range1 (hm : X.mg "range" = none) {fa : DA} (ha : QA X W [a] fa) (hg : Gl X "range" := by rfl) (hs : starEach [a] X.env = [(false, eval a X.env)] := by rfl) : QI X W tg (.Call (.Name "range" p) [a] [] pos) (iRng1' fa) := by
  have hp := pi_range1 (tg := tg) (p := p) (pos := pos) hg hm ha hs
  refine ⟨fun pins s g H R I q => hp.run pins s g H R I ?_⟩
  obtain ⟨L0, io0, H0, L, io, e, S, fr, q⟩ := q
  refine FinI.bind (R := VRs X.K) (k := rngR1) fr q fun L1 io1 H1 S1 l v s1 fr1 r1 q => ?_
  cases r1 with
  | nil => exact q.elim
  | cons r t =>
    cases r with
    | int j =>
      cases t with
      | nil =>
        simp only [rngR1] at q
        split at q
        · rename_i h
          exact ⟨j, rfl, h.1, h.2, q _ H1 L1 io1 (Stp.refl ..) fr1.st walk_rng⟩
        · exact q.elim
      | cons r2 t2 => exact q.elim
    | _ => exact q.elim
end
end DL
namespace DL
open PySem L2
def W0 : WX := fun _ _ _ _ => False
def lcR (tg : DG) (tt : DT) (te : DE) (e : Env) : List Dv → Sto → Res (List Dv)
  | [], S => .ok [] S
  | d :: ds, S => match tg d e with
    | none => .no
    | some e' => match tt e' S with
      | .ok b S1 => if b then (match te e' S1 with
          | .ok y S2 => (match lcR tg tt te e ds S2 with
            | .ok l S3 => .ok (y :: l) S3
            | _ => .no)
          | _ => .no) else lcR tg tt te e ds S1
      | _ => .no
def fLc (fi : DL) (tg : DG) (tt : DT) (te : DE) (vs : List Nat) : DL := fun e S => bnd (fi e S) fun ds S1 => match lcR tg tt te (wipeE e vs) ds S1 with
  | .ok l S2 => if l.length ≤ sizeLine then .ok l S2 else .no
  | _ => .no
def tTrue : DT := fun _ S => .ok true S
abbrev QTs (X : Cx) (W : WX) (es : List Expr) (f : DT) : Prop := PTs X es (rdt X.K W f)
theorem pts_imp {X : Cx} {e : List Expr} {t t' : TT} (h : PTs X e t) (i : ∀ g H Q, t' g H Q → t g H Q) : PTs X e t' := ⟨fun pins s g H Q I q => h.run pins s g H Q I (i g H Q q)⟩
theorem qts_nil {X : Cx} {W : WX} : QTs X W [] tTrue := pts_imp pts_nil fun g H Q q => by
  obtain ⟨L0, io0, H0, L, io, e, S, fr, q⟩ := q
  exact q.ok1 fr.st rfl
theorem FinI.bindF {K : PySem.W.Frag} {W : WX} {f : DL} {k : List Dv → Sto → Res (List Dv)} {g : St} {L0 L : Addr → Prop} {io0 io : List Addr} {H0 H : Hp} {e : Env} {S : Sto} {Q : V → Hp → Prop} {P : It → Hp → Prop}
    (fr : FR K L0 io0 H0 L io H g e S) (h : FinF K W g L io H Q (bnd (f e S) k))
    (n : ∀ (L1 : Addr → Prop) (io1 : List Addr) (H1 : Hp) (S1 : Sto) (a : List Dv) (J : It), Stp L io H L1 io1 H1 → FR K L0 io0 H0 L1 io1 H1 g e S1 → WalkR K L1 io1 H1 J a → FinF K W g L1 io1 H1 Q (k a S1) → P J H1) : rdi K W f g H P := by
  refine ⟨L0, io0, H0, L, io, e, S, fr, ?_⟩
  cases hf : f e S with
  | ok a S1 =>
    rw [hf] at h
    intro v H1 L1 io1 s1 sr1 r1
    have h : FinF K W g L io H Q (k a S1) := h
    refine n L1 io1 H1 S1 a v s1 (fr.step s1 sr1) r1 ?_
    cases hk : k a S1 with
    | ok l S2 =>
      rw [hk] at h
      intro v H' L' io' s2 sr2 ⟨p, xs, e1, e2, e3⟩
      refine h v H' L' io' (s1.trans s2 fr.st.sub) sr2 ⟨p, xs, e1, ?_, e3⟩
      rcases s1.back e2 with z | z
      · exact absurd e2 (sr1.dom p (s1.up p (fr.st.sub p z)))
      · exact z
    | ex c fs S2 =>
      rw [hk] at h
      exact fun v H' L' io' s2 sr r2 => h v H' L' io' (s1.trans s2 fr.st.sub) sr r2
    | no => rw [hk] at h; exact h
  | ex c fs S1 => rw [hf] at h; exact h
  | no => rw [hf] at h; exact h
section
variable {X : Cx} {W : WX} {elt tg iter : Expr} {ifs : List Expr} {scope : Scope} {own : List (Str × Nat)} {pos : Pos} {fi : DL} {gd : DG} {tt : DT} {te : DE} {vs : List Nat}
theorem rd_lc {K : PySem.W.Frag} {t : TG} (ho : TGok K t gd vs) {g : St} {H : Hp} {Q : VK} (q : rdF K W (fLc fi gd tt te vs) g H Q) : tLc (rdi K W fi) t (rdt K W0 tt) (rd K W0 te) vs g H Q := by
  obtain ⟨L0, io0, H0, L, io, e, S, fr, q⟩ := q
  refine FinI.bindF (k := fun ds S1 => match lcR gd tt te (wipeE e vs) ds S1 with
    | .ok l S2 => if l.length ≤ sizeLine then .ok l S2 else .no
    | _ => .no) fr q fun L1 io1 H1 S1 ds J s1 fr1 wk q => ?_
  cases hl : lcR gd tt te (wipeE e vs) ds S1 with
  | ex c fs S2 => rw [hl] at q; exact q.elim
  | no => rw [hl] at q; exact q.elim
  | ok l S2 =>
    rw [hl] at q
    simp only at q
    split at q
    · rename_i hz
      intro D hD
      have st0 := fr1.st
      -- the invariant
      refine ⟨fun i m H' => m = ds.length - i ∧ i ≤ ds.length ∧ ∃ (L' : Addr → Prop) (io' : List Addr) (S' : Sto) (acc : List V) (da dr : List Dv), FR K L0 io0 H0 L' io' H' (L2.wipe g vs) (wipeE e vs) S' ∧ Stp L1 io1 H1 L' io' H' ∧ Stw L1 io1 H1 L' io' H' ∧ L' D ∧ D ∉ io' ∧ H' D = some (.lst acc) ∧ VRs K L' io' H' acc da ∧ lcR gd tt te (wipeE e vs) (ds.drop i) S' = .ok dr S2 ∧ da ++ dr = l, ⟨ds.length, by simp, Nat.zero_le _, ?_⟩, ?_⟩
      · have s2 : Stp L1 io1 H1 (Ly L1 D) io1 (upd H1 D (.lst [])) := Stp.newV hD
        exact ⟨Ly L1 D, io1, S1, [], [], l, (fr1.step s2 (st0.newV hD)).wipe vs, s2, s2.stw st0.sub, .inr rfl, fun z => st0.dom D (st0.sub D z) hD, upd_same, .nil, by rw [List.drop_zero]; exact hl, rfl⟩
      · rintro i m H' ⟨rfl, hi, L', io', S', acc, da, dr, fr', sp, sw, lD, nD, hDa, ra, hr, hda⟩
        by_cases hlt : i < ds.length
        · obtain ⟨d, hd⟩ : ∃ d, ds[i]? = some d := ⟨_, List.getElem?_eq_getElem hlt⟩
          have hdrop : ds.drop i = d :: ds.drop (i + 1) := by
            rw [List.drop_eq_getElem_cons hlt]
            rw [List.getElem?_eq_getElem hlt] at hd
            cases hd
            rfl
          rw [hdrop] at hr
          obtain ⟨hgo, hy⟩ := wk.go L' io' H' S' i d sw fr'.st hd
          refine .inr ⟨hgo, fun H'' => ∃ m', m' < ds.length - i ∧ (m' = ds.length - (i + 1) ∧ i + 1 ≤ ds.length ∧ ∃ (L' : Addr → Prop) (io' : List Addr) (S' : Sto) (acc : List V) (da dr : List Dv), FR K L0 io0 H0 L' io' H'' (L2.wipe g vs) (wipeE e vs) S' ∧ Stp L1 io1 H1 L' io' H'' ∧ Stw L1 io1 H1 L' io' H'' ∧ L' D ∧ D ∉ io' ∧ H'' D = some (.lst acc) ∧ VRs K L' io' H'' acc da ∧ lcR gd tt te (wipeE e vs) (ds.drop (i + 1)) S' = .ok dr S2 ∧ da ++ dr = l), fun H'' h => h, fun x H2 y => ?_⟩
          obtain ⟨sr2, sp2, r2⟩ := hy x H2 y
          have fr2 := fr'.step sp2 sr2
          -- the target
          simp only [lcR] at hr
          cases hg : gd d (wipeE e vs) with
          | none => rw [hg] at hr; cases hr
          | some e' =>
            rw [hg] at hr
            simp only at hr
            refine ho L0 io0 H0 L' io' H2 (L2.wipe g vs) (wipeE e vs) S' x d e' _ fr2 r2 hg fun g' fr3 lg kg => ⟨?_, ?_⟩
            · exact (wipe_ext lg kg).trans (wipe_ext (L2.wipe_length g vs) fun k hk => by rw [wipe_get, if_neg hk])
            -- the test
            · cases ht : tt e' S' with
              | ex c fs S3 => rw [ht] at hr; cases hr
              | no => rw [ht] at hr; cases hr
              | ok b S3 =>
                rw [ht] at hr
                simp only at hr
                refine ⟨L0, io0, H0, L', io', e', S', fr3, ?_⟩
                rw [ht]
                intro b' H3 L3 io3 s3 sr3 eb
                subst eb
                have fr3' := fr2.step s3 sr3
                have sp3 := (sp.trans sp2 st0.sub).trans s3 st0.sub
                have sw3 := (sw.trans (sp2.stw fr'.st.sub)).trans (s3.stw fr2.st.sub)
                have l3 : L3 D := s3.up D (sp2.up D lD)
                have k2 : H2 D = some (.lst acc) := sp2.keep D _ hDa nD
                have n3 : D ∉ io3 := fun z => by
                  rcases s3.hn D z with q | q
                  · exact nD q
                  · rw [q] at k2; cases k2
                have k3 : H3 D = some (.lst acc) := s3.keep D _ k2 nD
                have ra3 := (ra.step sp2 fr'.st.sub).step s3 fr2.st.sub
                cases b' with
                | false =>
                  rw [if_neg Bool.false_ne_true] at hr
                  refine iteF ⟨_, by omega, rfl, hlt, L3, io3, S3, acc, da, dr, fr3', sp3, sw3, l3, n3, k3, ra3, hr, hda⟩
                | true =>
                  rw [if_pos rfl] at hr
                  refine iteT ?_
                  -- the element
                  cases he : te e' S3 with
                  | ex c fs S4 => rw [he] at hr; cases hr
                  | no => rw [he] at hr; cases hr
                  | ok y' S4 =>
                    rw [he] at hr
                    simp only at hr
                    refine ⟨L0, io0, H0, L3, io3, e', S3, fr3.step s3 sr3, ?_⟩
                    rw [he]
                    intro y H4 L4 io4 s4 sr4 ry
                    have k4 : H4 D = some (.lst acc) := s4.keep D _ k3 n3
                    have l4 : L4 D := s4.up D l3
                    have n4 : D ∉ io4 := fun z => by
                      rcases s4.hn D z with q | q
                      · exact n3 q
                      · rw [q] at k3; cases k3
                    have fr4 := fr3'.step s4 sr4
                    have sp4 := sp3.trans s4 st0.sub
                    have sw4 := sw3.trans (s4.stw fr3'.st.sub)
                    have ra4 := ra3.step s4 fr3'.st.sub
                    cases hrest : lcR gd tt te (wipeE e vs) (ds.drop (i + 1)) S4 with
                    | ex c fs S5 => rw [hrest] at hr; cases hr
                    | no => rw [hrest] at hr; cases hr
                    | ok l' S5 =>
                      rw [hrest] at hr
                      cases hr
                      have hlen : acc.length < sizeLine := by
                        rw [ra.len]
                        rw [← hda, List.length_append, List.length_cons] at hz
                        omega
                      have hD1 : H1 D = none := hD
                      have frm : FR K L0 io0 H0 L4 io4 (upd H4 D (.lst (acc ++ [y]))) (L2.wipe g vs) (wipeE e vs) S4 := by
                        refine fr4.mutD l4 n4 (fr1.fresh0 hD) fun j q' v1 v2 v3 hg' => ?_
                        obtain ⟨o, ho', _⟩ := (fr1.wipe vs).ownAt v1 v2 v3 hg'
                        exact ne_of_none ho' hD
                      refine ⟨acc, k4, hlen, _, by omega, rfl, hlt, L4, io4, S4, acc ++ [y], da ++ [y'], l', frm, ?_, sw4.trans (Stw.mut l4), l4, n4, upd_same, (ra4.app (.cons ry .nil)).mut l4, hrest, by rw [List.append_assoc]; exact hda⟩
                      exact ⟨sp4.pre, sp4.hn, sp4.new, fun a o h n => by rw [upd_ne (ne_of_none h hD1)]; exact sp4.keep a o h n, sp4.up⟩
        · have ei : i = ds.length := by omega
          subst ei
          rw [List.drop_length] at hr
          cases hr
          rw [List.append_nil] at hda
          subst hda
          refine .inl ⟨wk.stop L' io' H' sw, ?_⟩
          exact q _ H' L' io' sp fr'.st ⟨D, acc, rfl, hD, lD, nD, hDa, ra⟩
    · exact q.elim
theorem qf_lc (hc : X.calm = true) (hN : X.N.Nodup) (hi : QI X W tg iter fi) (ok : BlkOk X.N X.env.scope scope own)
    (hg : ∀ (s : Shared) (H : Hp) (C : Addr) (cl : List (Str × Addr)) (fp : List Addr), QG (X.blk s H scope (compEnvC scope cl C X.env) fp) tg gd (own.map (·.2)))
    (ht : ∀ (s : Shared) (H : Hp) (C : Addr) (cl : List (Str × Addr)) (fp : List Addr), QTs (X.blk s H scope (compEnvC scope cl C X.env) fp) W0 ifs tt)
    (he : ∀ (s : Shared) (H : Hp) (C : Addr) (cl : List (Str × Addr)) (fp : List Addr), QE (X.blk s H scope (compEnvC scope cl C X.env) fp) W0 elt te) (hs : ∀ x, foldedSetIterable iter X.env x = pure x := by intro _; rfl) :
    QF X W (.ListComp elt [⟨tg, iter, ifs, 0⟩] scope pos) (fLc fi gd tt te (own.map (·.2))) :=
  pe_imp (pe_lc (g := tgR X.K gd (own.map (·.2))) (tt := rdt X.K W0 tt) (te := rd X.K W0 te) hc hN hi ok (fun s H C cl fp => (hg s H C cl fp).canon) ht he hs) fun g H Q q => rd_lc tgR_ok q
end
end DL
namespace DL
open PySem L2
inductive Out where
  | nx (e : Env) (S : Sto) | rt (d : Dv) (S : Sto) | bk (e : Env) (S : Sto) | ct (e : Env) (S : Sto) | ex (c : Str) (fs : List (Str × Dv)) (e : Env) (S : Sto) | no
abbrev DS := Env → Sto → Out
def outR (K : PySem.W.Frag) (W : WX) (L0 : Addr → Prop) (io0 : List Addr) (H0 : Hp) (D : Ends) (L : Addr → Prop) (io : List Addr) (H : Hp) : Out → Prop
  | .nx e S => ∀ (g : St) (H' : Hp) (L' : Addr → Prop) (io' : List Addr), Stw L io H L' io' H' → FR K L0 io0 H0 L' io' H' g e S → D.nx g H'
  | .bk e S => ∀ (g : St) (H' : Hp) (L' : Addr → Prop) (io' : List Addr), Stw L io H L' io' H' → FR K L0 io0 H0 L' io' H' g e S → D.bk g H'
  | .ct e S => ∀ (g : St) (H' : Hp) (L' : Addr → Prop) (io' : List Addr), Stw L io H L' io' H' → FR K L0 io0 H0 L' io' H' g e S → D.ct g H'
  | .rt d S => ∀ (v : V) (H' : Hp) (L' : Addr → Prop) (io' : List Addr), SR K L' io' H' S → Stp L0 io0 H0 L' io' H' → VR K L' io' H' v d → D.rt v H'
  | .ex c fs e S => ∀ (x : Option Addr) (g : St) (H' : Hp) (L' : Addr → Prop) (io' : List Addr), Stw L io H L' io' H' → FR K L0 io0 H0 L' io' H' g e S → ExR K L' io' H' x fs → W (.ref (He.ga K c)) x g H'
  | .no => False
def rds (K : PySem.W.Frag) (W : WX) (f : DS) : TS := fun D g H => ∃ (L0 : Addr → Prop) (io0 : List Addr) (H0 : Hp) (L : Addr → Prop) (io : List Addr) (e : Env) (S : Sto), FR K L0 io0 H0 L io H g e S ∧ outR K W L0 io0 H0 D L io H (f e S)
abbrev QS (X : Cx) (W : WX) (st : Stmt) (f : DS) : Prop := PS X st (rds X.K W f)
abbrev QSs (X : Cx) (W : WX) (sts : List Stmt) (f : DS) : Prop := PSs X sts (rds X.K W f)
theorem outR.later {K : PySem.W.Frag} {W : WX} {L0 L L1 : Addr → Prop} {io0 io io1 : List Addr} {H0 H H1 : Hp} {D : Ends} {o : Out} (h : outR K W L0 io0 H0 D L io H o) (s : Stw L io H L1 io1 H1) : outR K W L0 io0 H0 D L1 io1 H1 o := by
  cases o with
  | nx e S => exact fun g H' L' io' s2 fr => h g H' L' io' (s.trans s2) fr
  | bk e S => exact fun g H' L' io' s2 fr => h g H' L' io' (s.trans s2) fr
  | ct e S => exact fun g H' L' io' s2 fr => h g H' L' io' (s.trans s2) fr
  | rt d S => exact h
  | ex c fs e S => exact fun x g H' L' io' s2 fr => h x g H' L' io' (s.trans s2) fr
  | no => exact h
def sBind {α : Type} (f : Env → Sto → Res α) (k : Env → α → Sto → Out) : DS := fun e S => match f e S with
  | .ok a S' => k e a S'
  | .ex c fs S' => .ex c fs e S'
  | .no => .no
theorem rds_bind {α β : Type} {K : PySem.W.Frag} {W : WX} {R : (Addr → Prop) → List Addr → Hp → β → α → Prop} {f : Env → Sto → Res α} {k : Env → α → Sto → Out} {D : Ends} {g : St} {H : Hp} {P : β → Hp → Prop} (h : rds K W (sBind f k) D g H)
    (n : ∀ (L0 : Addr → Prop) (io0 : List Addr) (H0 : Hp) (L : Addr → Prop) (io : List Addr) (H1 : Hp) (e : Env) (S : Sto) (a : α) (v : β), FR K L0 io0 H0 L io H1 g e S → R L io H1 v a → outR K W L0 io0 H0 D L io H1 (k e a S) → P v H1) : Rdg K W R f g H P := by
  obtain ⟨L0, io0, H0, L, io, e, S, fr, h⟩ := h
  unfold sBind at h
  refine ⟨L0, io0, H0, L, io, e, S, fr, ?_⟩
  cases hf : f e S with
  | ok a S1 =>
    rw [hf] at h
    intro v H1 L1 io1 s1 sr1 r1
    exact n L0 io0 H0 L1 io1 H1 e S1 a v (fr.step s1 sr1) r1 (outR.later h (s1.stw fr.st.sub))
  | ex c fs S1 =>
    rw [hf] at h
    exact fun x H' L' io' s sr r => h x g H' L' io' (s.stw fr.st.sub) (fr.step s sr) r
  | no => rw [hf] at h; exact h
section
variable {X : Cx} {W : WX} {pos : Pos} {a b c : Expr} {f : DE} {t : DT} {f1 f2 : DS} {st : Stmt} {rest sa sb : List Stmt} {i : Nat} {x : Str}
def sNil : DS := fun e S => .nx e S
def sSeq (f1 f2 : DS) : DS := fun e S => match f1 e S with
  | .nx e' S' => f2 e' S'
  | o => o
theorem qss_nil : QSs X W [] sNil := pss_imp pss_nil fun D g H h => by
  obtain ⟨L0, io0, H0, L, io, e, S, fr, h⟩ := h
  exact h g H L io (Stw.refl ..) fr
theorem qss_cons (h1 : QS X W st f1) (h2 : QSs X W rest f2) : QSs X W (st :: rest) (sSeq f1 f2) := pss_imp (pss_cons h1 h2) fun D g H h => by
  obtain ⟨L0, io0, H0, L, io, e, S, fr, h⟩ := h
  unfold sSeq at h
  refine ⟨L0, io0, H0, L, io, e, S, fr, ?_⟩
  cases hf : f1 e S with
  | nx e' S' =>
    rw [hf] at h
    exact fun g' H' L' io' s fr' => ⟨L0, io0, H0, L', io', e', S', fr', outR.later h s⟩
  | _ => rw [hf] at h; exact h
theorem qss_one (h1 : QS X W st f1) : QSs X W [st] f1 := pss_one h1
def sRet (f : DE) : DS := sBind f fun _ d S => .rt d S
theorem qs_ret (h : QE X W a f) : QS X W (.Return (some a) pos) (sRet f) := ps_imp (ps_ret h) fun D g H h => by
  refine rds_bind (R := VR X.K) (k := fun _ d S => .rt d S) h fun L0 io0 H0 L io H1 e S d v fr r q => ?_
  exact q v H1 L io fr.st fr.en r
def sExpr (f : DE) : DS := sBind f fun e _ S => .nx e S
theorem qs_expr (h : QE X W a f) (hs : swapsWith a none pos.line X.env = pure false := by rfl) : QS X W (.Expr a pos) (sExpr f) := ps_imp (ps_expr h hs) fun D g H h => by
  refine rds_bind (R := VR X.K) (k := fun e _ S => .nx e S) h fun L0 io0 H0 L io H1 e S d v fr r q => ?_
  exact q g H1 L io (Stw.refl ..) fr
def sIf (t : DT) (f1 f2 : DS) : DS := sBind t fun e b S => if b then f1 e S else f2 e S
theorem qs_if (hc : QT X W c t) (ha : QSs X W sa f1) (hb : QSs X W sb f2) : QS X W (.If c sa sb pos) (sIf t f1 f2) := ps_imp (ps_if hc ha hb) fun D g H h => by
  refine rds_bind (R := fun _ _ _ (v : Bool) d => v = d) (k := fun e b S => if b then f1 e S else f2 e S) h fun L0 io0 H0 L io H1 e S d v fr r q => ?_
  subst r
  cases v with
  | true => exact iteT ⟨L0, io0, H0, L, io, e, S, fr, q⟩
  | false => exact iteF ⟨L0, io0, H0, L, io, e, S, fr, q⟩
/-- x = e -/
def sAsg (i : Nat) (f : DE) : DS := sBind f fun e d S => .nx (e.set i (.va d)) S
theorem qs_asg (hN : X.N.Nodup) (i : Nat) {pos' : Pos} (h : QE X W a f) (hi : X.N[i]? = some x := by rfl) (hx : Loc X.env.scope x := by first | exact Or.inl rfl | exact Or.inr rfl) (hs : swapsWith a (some (.Name x pos')) pos.line X.env = pure false := by rfl) (hf : X.fn x = true ∨ X.env.scope.names.lookup x = some .local := by first | exact .inl rfl | exact .inr rfl) :
    QS X W (.Assign [.Name x pos'] a pos) (sAsg i f) := ps_imp (ps_set hN hi hx h hs hf) fun D g H h => by
  refine rds_bind (R := VR X.K) (k := fun e d S => .nx (e.set i (.va d)) S) h fun L0 io0 H0 L io H1 e S d v fr r q => ?_
  exact q _ H1 L io (Stw.refl ..) (fr.setV i r)
/-- targets of any form -/
def sAsgG (gd : DG) (f : DE) : DS := sBind f fun e d S => match gd d e with
  | some e' => .nx e' S
  | none => .no
/-- x, y = e1, e2 -/
def sPar (i j : Nat) (fa : DA) : DS := sBind fa fun e l S => match l with
  | [d1, d2] => .nx ((e.set i (.va d1)).set j (.va d2)) S
  | _ => .no
theorem qs_par {y : Str} {px py pt : Pos} {kt k2 pt2} {fa : DA} (hc : X.calm = true) (hN : X.N.Nodup) (i j : Nat) (ha : QA X W [a, b] fa) (hi : X.N[i]? = some x := by rfl) (hj : X.N[j]? = some y := by rfl) (hij : i ≠ j := by decide)
    (hx : X.env.scope.names.lookup x = some .local := by rfl) (hy : X.env.scope.names.lookup y = some .local := by rfl)
    (hw : swappedStores [.Tuple [.Name x px, .Name y py] kt pt] (.Tuple [a, b] k2 pt2) X.env = pure (some [x, y]) := by rfl)
    (hs : swapsWithSole [.Tuple [.Name x px, .Name y py] kt pt] (.Tuple [a, b] k2 pt2) pos.line X.env = pure false := by rfl) :
    QS X W (.Assign [.Tuple [.Name x px, .Name y py] kt pt] (.Tuple [a, b] k2 pt2) pos) (sPar i j fa) := ps_imp (ps_par hc hN hi hj hij hx hy ha hw hs) fun D g H h => by
  refine rds_bind (R := VRs X.K) (k := fun e l S => match l with
    | [d1, d2] => .nx ((e.set i (.va d1)).set j (.va d2)) S
    | _ => .no) h fun L0 io0 H0 L io H1 e S d v fr r q => ?_
  cases r with
  | nil => exact q.elim
  | cons r1 t1 =>
    cases t1 with
    | nil => exact q.elim
    | cons r2 t2 =>
      cases t2 with
      | cons => exact q.elim
      | nil => exact ⟨_, _, rfl, q _ H1 L io (Stw.refl ..) ((fr.setV i r1).setV j r2)⟩
def sPar3 (i j k : Nat) (fa : DA) : DS := sBind fa fun e l S => match l with
  | [d1, d2, d3] => .nx (((e.set i (.va d1)).set j (.va d2)).set k (.va d3)) S
  | _ => .no
/-- x = a new list: the slot's own -/
def sOwn (i : Nat) (f : DL) : DS := sBind f fun e l S => .nx (e.set i (.ow l)) S
/-- .. a handle -/
def sNew (i : Nat) (f : DL) : DS := sBind f fun e l S => .nx (e.set i (.va (.hdl S.length))) (S ++ [.lst l])
end
/-- a new list becomes a handle's -/
theorem SR.addO {K : PySem.W.Frag} {L : Addr → Prop} {io : List Addr} {H : Hp} {S : Sto} {p : Addr} {ob : Ob} (sr : SR K L io H S) (lp : L p) (np : p ∉ io) (h1 : ObR K L io H p ob) : SR K L (io ++ [p]) H (S ++ [ob]) := by
  have on : ∀ v d, VR K L io H v d → VR K L (io ++ [p]) H v d := fun v d r => VR.on (fun _ _ h => io_keep h) (fun a o e n => ⟨e, n⟩) r
  refine ⟨by rw [List.length_append, List.length_append, sr.len]; rfl, ?_, fun a h => ?_, sr.dom, fun k a o h3 h4 => ?_⟩
  · rw [List.nodup_append]
    exact ⟨sr.nd, by simp, fun a ha b hb => by simp at hb; subst hb; exact fun z => np (by rw [← z]; exact ha)⟩
  · rcases List.mem_append.mp h with z | z
    · exact sr.sub a z
    · simp at z; subst z; exact lp
  · by_cases hk : k < io.length
    · rw [List.getElem?_append_left hk] at h3
      rw [List.getElem?_append_left (by rw [← sr.len]; exact hk)] at h4
      exact (sr.obj k a o h3 h4).mono (fun _ e => e) on
    · have hk2 : io.length ≤ k := by omega
      rw [List.getElem?_append_right hk2] at h3
      rw [List.getElem?_append_right (by rw [← sr.len]; exact hk2), ← sr.len] at h4
      cases hd : k - io.length with
      | zero =>
        rw [hd] at h3 h4
        cases h3; cases h4
        exact h1.mono (fun _ e => e) on
      | succ n => rw [hd] at h3; simp at h3
theorem SR.addH {K : PySem.W.Frag} {L : Addr → Prop} {io : List Addr} {H : Hp} {S : Sto} {p : Addr} {xs : List V} {l : List Dv} (sr : SR K L io H S) (lp : L p) (np : p ∉ io) (h1 : H p = some (.lst xs)) (h2 : VRs K L io H xs l) : SR K L (io ++ [p]) H (S ++ [.lst l]) := sr.addO lp np ⟨xs, h1, h2⟩
section
variable {X : Cx} {W : WX} {pos : Pos} {a : Expr} {f : DL} {x : Str}
theorem FR.setH {K : PySem.W.Frag} {L0 L L1 : Addr → Prop} {io0 io io1 : List Addr} {H0 H H1 : Hp} {g : St} {e : Env} {S S1 : Sto} (fr : FR K L0 io0 H0 L io H g e S) (s : Stp L io H L1 io1 H1) (sr : SR K L1 io1 H1 S1) {v : V} {l : List Dv} (n : NewL K H L1 io1 H1 v l) :
    ∃ io2, Stp L io H L1 io2 H1 ∧ Stw L1 io1 H1 L1 io2 H1 ∧ SR K L1 io2 H1 (S1 ++ [.lst l]) ∧ VR K L1 io2 H1 v (.hdl S1.length) := by
  obtain ⟨p, xs, rfl, hp, lp, np, h1, h2⟩ := n
  have sr2 := sr.addH lp np h1 h2
  refine ⟨io1 ++ [p], ⟨?_, fun x hx => ?_, s.new, s.keep, s.up⟩, ⟨⟨[p], rfl⟩, fun _ h => .inl h, fun _ _ h _ => h⟩, sr2, .hdl (by rw [← sr.len]; simp)⟩
  · obtain ⟨m, rfl⟩ := s.pre
    exact ⟨m ++ [p], by simp⟩
  · rcases List.mem_append.mp hx with z | z
    · exact s.hn x z
    · simp at z; subst z; exact .inr hp
/-- a new list as a handle, as a value -/
def eNew (f : DL) : DE := fun e S => bnd (f e S) fun l S' => .ok (.hdl S'.length) (S' ++ [.lst l])
theorem qe_new (h : QF X W a f) : QE X W a (eNew f) := pe_imp h fun g H Q q => by
  obtain ⟨L0, io0, H0, L, io, e, S, fr, q⟩ := q
  refine ⟨L0, io0, H0, L, io, e, S, fr, ?_⟩
  have q : Fin X.K W (VR X.K) g L io H Q (bnd (f e S) fun l S' => .ok (.hdl S'.length) (S' ++ [.lst l])) := q
  cases hf : f e S with
  | no => rw [hf] at q; exact q
  | ex c fs S' => rw [hf] at q; exact q
  | ok l S' =>
    rw [hf] at q
    intro v H' L' io' s sr n
    obtain ⟨io2, s2, w2, sr2, r2⟩ := fr.setH s sr n
    exact q v H' L' io2 s2 sr2 r2
end
/-- what is a slot's own is own no more -/
def frzO : Ob → Dv
  | .lst l => .lst l
  | .dct l => .dic l
  | .ins c fs => .obj c fs
  | .ext _ _ _ => .non
def sFrz (i : Nat) : DS := fun e S => match e[i]? with
  | some (.own o) => .nx (e.set i (.va (frzO o))) S
  | _ => .no
theorem vrp_of {K : PySem.W.Frag} {L : Addr → Prop} {io : List Addr} {H : Hp} : ∀ {kvs : List (Key × V)} {l : List (Key × Dv)}, PairR (VR K L io H) kvs l → VRp K L io H kvs l
  | _, _, .nil => .nil
  | (k, v) :: _, (k', d) :: _, .cons ⟨h1, h2⟩ t => by
    cases (show k = k' from h1)
    exact .cons h2 (vrp_of t)
theorem vrf_of {K : PySem.W.Frag} {L : Addr → Prop} {io : List Addr} {H : Hp} : ∀ {kvs : List (Str × V)} {l : List (Str × Dv)}, PairR (VR K L io H) kvs l → VRf K L io H kvs l
  | _, _, .nil => .nil
  | (k, v) :: _, (k', d) :: _, .cons ⟨h1, h2⟩ t => by
    cases (show k = k' from h1)
    exact .cons h2 (vrf_of t)
theorem ObR.frz {K : PySem.W.Frag} {L : Addr → Prop} {io : List Addr} {H : Hp} {p : Addr} {o : Ob} (h : ObR K L io H p o) (n : ¬ L p) (np : p ∉ io) : VR K L io H (.ref p) (frzO o) := by
  cases o with
  | lst l => obtain ⟨xs, h1, h2⟩ := h; exact .lst n h1 h2
  | dct l => obtain ⟨xs, h1, h2⟩ := h; exact .dic n (.inl h1) (vrp_of h2)
  | ins c fs => obtain ⟨dx, xs, h1, h2⟩ := h; exact .obj n h1 (vrf_of h2)
  | ext => exact absurd h.1 np
theorem FR.frz {K : PySem.W.Frag} {L0 L : Addr → Prop} {io0 io : List Addr} {H0 H : Hp} {g : St} {e : Env} {S : Sto} (fr : FR K L0 io0 H0 L io H g e S) {i : Nat} {o : Ob} (h : e[i]? = some (.own o)) :
    ∃ p, g[i]? = some (some (.ref p)) ∧ FR K L0 io0 H0 (Lz L p) io H g (e.set i (.va (frzO o))) S ∧ Stw L io H (Lz L p) io H := by
  obtain ⟨p, h1, h2, h3, h4, h5⟩ := fr.own i o h
  have hl : ∀ a, Lz L p a → L a := fun a z => z.1
  have on : ∀ v d, VR K L io H v d → VR K (Lz L p) io H v d := fun v d r => r.less hl
  have hi : i < e.length := (List.getElem?_eq_some_iff.mp h).1
  have ne : ∀ j q, j ≠ i → (∀ d, e[j]? ≠ some (.va d)) → e[j]? ≠ some .no → g[j]? = some (some (.ref q)) → q ≠ p := fun j q hj v1 v2 hg z => by
    subst z
    exact fr.inj i j q (fun z => hj z.symm) (by rw [h]; intro d z; cases z) v1 (by rw [h]; intro z; cases z) v2 h1 hg
  refine ⟨p, h1, ⟨fr.st.less hl fun a ha => ⟨fr.st.sub a ha, fun z => h3 (by rw [← z]; exact ha)⟩, by rw [List.length_set]; exact fr.len, fun j d hj => ?_, fun j m hj => ?_, fun j k q hjk v1 v2 n1 n2 g1 g2 => ?_, ⟨fr.en.pre, fr.en.hn, fun a z => fr.en.new a z.1, fr.en.keep, fun a z => ⟨fr.en.up a z, fun e => ?_⟩⟩, fr.sub0, fr.dom0⟩, ⟨⟨[], by simp⟩, fun a z => .inl z.1, fun _ _ e _ => e⟩⟩
  · rcases set_get hj with ⟨rfl, e1, e2⟩ | ⟨e1, e2⟩
    · cases e1
      exact ⟨.ref p, h1, (ObR.mono (o := o) h5 (fun _ h => h) on).frz (fun z => z.2 rfl) h3⟩
    · obtain ⟨v, r1, r2⟩ := fr.va j d e2
      exact ⟨v, r1, on _ _ r2⟩
  · rcases set_get hj with ⟨rfl, e1, e2⟩ | ⟨e1, e2⟩
    · cases e1
    · obtain ⟨q, r1, r2, r3, r4, r5⟩ := fr.own j m e2
      exact ⟨q, r1, ⟨r2, ne j q e1 (by rw [e2]; intro d z; cases z) (by rw [e2]; intro z; cases z) r1⟩, r3, r4, ObR.mono (o := m) r5 (fun _ h => h) on⟩
  · have hj : j ≠ i := fun z => by subst z; exact v1 _ (set_at hi)
    have hk : k ≠ i := fun z => by subst z; exact v2 _ (set_at hi)
    rw [set_ne hj] at v1 n1
    rw [set_ne hk] at v2 n2
    exact fr.inj j k q hjk v1 v2 n1 n2 g1 g2
  · rw [← e] at h4
    exact fr.dom0 a z h4
end DL
namespace DL
open PySem L2
def forR (gd : DG) (body : DS) : List Dv → Env → Sto → Out
  | [], e, S => .nx e S
  | d :: ds, e, S => match gd d e with
    | none => .no
    | some e' => match body e' S with
      | .nx e1 S1 => forR gd body ds e1 S1
      | .ct e1 S1 => forR gd body ds e1 S1
      | .bk e1 S1 => .nx e1 S1
      | o => o
def sFor (fi : DL) (gd : DG) (body : DS) : DS := sBind fi fun e ds S => forR gd body ds e S
theorem rds_bindI {K : PySem.W.Frag} {W : WX} {f : DL} {k : Env → List Dv → Sto → Out} {D : Ends} {g : St} {H : Hp} {P : It → Hp → Prop} (h : rds K W (sBind f k) D g H)
    (n : ∀ (L0 : Addr → Prop) (io0 : List Addr) (H0 : Hp) (L : Addr → Prop) (io : List Addr) (H1 : Hp) (e : Env) (S : Sto) (a : List Dv) (J : It), FR K L0 io0 H0 L io H1 g e S → WalkR K L io H1 J a → outR K W L0 io0 H0 D L io H1 (k e a S) → P J H1) : rdi K W f g H P := by
  obtain ⟨L0, io0, H0, L, io, e, S, fr, h⟩ := h
  unfold sBind at h
  refine ⟨L0, io0, H0, L, io, e, S, fr, ?_⟩
  cases hf : f e S with
  | ok a S1 =>
    rw [hf] at h
    intro v H1 L1 io1 s1 sr1 r1
    exact n L0 io0 H0 L1 io1 H1 e S1 a v (fr.step s1 sr1) r1 (outR.later h (s1.stw fr.st.sub))
  | ex c fs S1 =>
    rw [hf] at h
    exact fun x H' L' io' s sr r => h x g H' L' io' (s.stw fr.st.sub) (fr.step s sr) r
  | no => rw [hf] at h; exact h
theorem rd_for {K : PySem.W.Frag} {W : WX} {fi : DL} {gd : DG} {body : DS} {vs : List Nat} {D : Ends} {g : St} {H : Hp} (h : rds K W (sFor fi gd body) D g H) : tFor (rdi K W fi) (tgR K gd vs) (rds K W body) D g H := by
  refine rds_bindI (k := fun e ds S => forR gd body ds e S) h fun L0 io0 H0 L1 io1 H1 e S ds J fr wk q => ?_
  refine ⟨fun i m g' H' => m = ds.length - i ∧ i ≤ ds.length ∧ ∃ (L' : Addr → Prop) (io' : List Addr) (e' : Env) (S' : Sto), FR K L0 io0 H0 L' io' H' g' e' S' ∧ Stw L1 io1 H1 L' io' H' ∧ outR K W L0 io0 H0 D L' io' H' (forR gd body (ds.drop i) e' S'),
    ⟨ds.length, by simp, Nat.zero_le _, L1, io1, e, S, fr, Stw.refl .., by rw [List.drop_zero]; exact q⟩, ?_⟩
  rintro i m g' H' ⟨rfl, hi, L', io', e', S', fr', sw, q⟩
  by_cases hlt : i < ds.length
  · obtain ⟨d, hd⟩ : ∃ d, ds[i]? = some d := ⟨_, List.getElem?_eq_getElem hlt⟩
    have hdrop : ds.drop i = d :: ds.drop (i + 1) := by
      rw [List.drop_eq_getElem_cons hlt]
      rw [List.getElem?_eq_getElem hlt] at hd
      cases hd
      rfl
    rw [hdrop] at q
    simp only [forR] at q
    obtain ⟨hgo, hy⟩ := wk.go L' io' H' S' i d sw fr'.st hd
    refine .inr ⟨hgo, fun g'' H'' => ∃ m', m' < ds.length - i ∧ (m' = ds.length - (i + 1) ∧ i + 1 ≤ ds.length ∧ ∃ (L' : Addr → Prop) (io' : List Addr) (e' : Env) (S' : Sto), FR K L0 io0 H0 L' io' H'' g'' e' S' ∧ Stw L1 io1 H1 L' io' H'' ∧ outR K W L0 io0 H0 D L' io' H'' (forR gd body (ds.drop (i + 1)) e' S')), fun _ _ h => h, fun x H2 y => ?_⟩
    obtain ⟨sr2, sp2, r2⟩ := hy x H2 y
    have fr2 := fr'.step sp2 sr2
    have sw2 := sw.trans (sp2.stw fr'.st.sub)
    cases hg : gd d e' with
    | none => rw [hg] at q; exact q.elim
    | some e2 =>
      rw [hg] at q
      simp only at q
      refine ⟨L0, io0, H0, L', io', e', S', d, e2, fr2, r2, hg, fun g3 fr3 _ _ => ⟨L0, io0, H0, L', io', e2, S', fr3, ?_⟩⟩
      cases hb : body e2 S' with
      | nx e1 S1 =>
        rw [hb] at q
        exact fun g4 H4 L4 io4 s4 fr4 => ⟨_, by omega, rfl, hlt, L4, io4, e1, S1, fr4, sw2.trans s4, outR.later q ((sp2.stw fr'.st.sub).trans s4)⟩
      | ct e1 S1 =>
        rw [hb] at q
        exact fun g4 H4 L4 io4 s4 fr4 => ⟨_, by omega, rfl, hlt, L4, io4, e1, S1, fr4, sw2.trans s4, outR.later q ((sp2.stw fr'.st.sub).trans s4)⟩
      | bk e1 S1 =>
        rw [hb] at q
        exact fun g4 H4 L4 io4 s4 fr4 => q g4 H4 L4 io4 ((sp2.stw fr'.st.sub).trans s4) fr4
      | rt d1 S1 => rw [hb] at q; exact q
      | ex c fs e1 S1 =>
        rw [hb] at q
        exact fun x g4 H4 L4 io4 s4 fr4 r4 => q x g4 H4 L4 io4 ((sp2.stw fr'.st.sub).trans s4) fr4 r4
      | no => rw [hb] at q; exact q
  · have ei : i = ds.length := by omega
    subst ei
    rw [List.drop_length] at q
    exact .inl ⟨wk.stop L' io' H' sw, q g' H' L' io' (Stw.refl ..) fr'⟩
section
variable {X : Cx} {W : WX} {pos : Pos} {tg iter : Expr} {body : List Stmt} {fi : DL} {gd : DG} {fb : DS} {vs : List Nat}
theorem qs_for (hp : PassesOwn (model X.prog X.w) X.A X.env X.xe) (hc : X.calm = true) (hi : QI X W tg iter fi) (hg : QG X tg gd vs) (hb : QSs X W body fb) (hs : ∀ x, foldedSetIterable iter X.env x = pure x := by intro _; rfl) : QS X W (.For tg iter body [] pos) (sFor fi gd fb) :=
  ps_imp (ps_for hp hc hi hg.canon hb hs) fun D g H h => rd_for h
end
/-- a list's method by data: the list, the arguments; the list behind it, the answer -/
def OwnS (K : PySem.W.Frag) (r : V → List V → Hp → VK → Prop) (h : List Dv → List Dv → Option (List Dv × Dv)) : Prop :=
  ∀ (L : Addr → Prop) (io : List Addr) (H : Hp) (S : Sto) (p : Addr) (xs : List V) (l : List Dv) (vs : List V) (as l' : List Dv) (d : Dv) (Q : VK), SR K L io H S → H p = some (.lst xs) → L p → VRs K L io H xs l → VRs K L io H vs as → h l as = some (l', d) →
    (∀ ys v, VRs K L io H ys l' → VR K L io H v d → Q v (upd H p (.lst ys))) → r (.ref p) vs H Q
def sOwnM (h : List Dv → List Dv → Option (List Dv × Dv)) (i : Nat) (fa : DA) : DS := fun e S => match e[i]? with
  | some (.own (.lst l)) => sBind fa (fun e as S => match h l as with
    | some (l', _) => .nx (e.set i (.ow l')) S
    | none => .no) e S
  | _ => .no
theorem SR.setH {K : PySem.W.Frag} {L : Addr → Prop} {io : List Addr} {H : Hp} {S : Sto} {k : Nat} {a : Addr} {ob : Ob} {o : HO} (sr : SR K L io H S) (hk : io[k]? = some a) (r : ObR K L io (upd H a o) a ob) : SR K L io (upd H a o) (S.set k ob) := by
  have la : L a := sr.sub a (List.mem_of_getElem? hk)
  refine ⟨by rw [List.length_set]; exact sr.len, sr.nd, sr.sub, fun b hb => ?_, fun j b u h1 h2 => ?_⟩
  · by_cases e : b = a
    · rw [e, upd_same]; exact fun z => nomatch z
    · rw [upd_ne e]; exact sr.dom b hb
  · rcases set_get h2 with ⟨rfl, rfl, _⟩ | ⟨e1, e2⟩
    · rw [hk] at h1; cases h1; exact r
    · refine (sr.obj j b u h1 e2).mono (fun z ez => ?_) fun v d rv => rv.mut la
      rw [upd_ne (fun z => e1 ?_)]
      · exact ez
      · rw [← z] at hk
        obtain ⟨q1, q2⟩ := List.getElem?_eq_some_iff.mp h1
        obtain ⟨q3, q4⟩ := List.getElem?_eq_some_iff.mp hk
        exact (List.getElem_inj sr.nd).mp (q2.trans q4.symm)
theorem Stp.mutH {L : Addr → Prop} {io : List Addr} {H : Hp} {a : Addr} {o : HO} (h : a ∈ io) : Stp L io H L io (upd H a o) :=
  ⟨⟨[], by simp⟩, fun _ h => .inl h, fun _ h => .inl h, fun b u e n => by rw [upd_ne (fun z => n (by rw [z]; exact h))]; exact e, fun _ h => h⟩
def hdlM (h : List Dv → List Dv → Option (List Dv × Dv)) (S : Sto) (o : Dv) (as : List Dv) : Res Dv := match o with
  | .hdl k => match S[k]? with
    | some (.lst l) => match h l as with
      | some (l', d) => .ok d (S.set k (.lst l'))
      | none => .no
    | _ => .no
  | _ => .no
def lstHd (S : Sto) : Dv → Bool
  | .hdl k => match S[k]? with
    | some (.lst _) => true
    | _ => false
  | _ => false
def eHdlM (h : List Dv → List Dv → Option (List Dv × Dv)) (fo : DE) (fa : DA) : DE := fun e S => bnd (fo e S) fun o S1 => if lstHd S1 o then bnd (fa e S1) fun as S2 => hdlM h S2 o as else .no
theorem rd_hdlM {K : PySem.W.Frag} {W : WX} {r : V → List V → Hp → VK → Prop} {h : List Dv → List Dv → Option (List Dv × Dv)} (hs : OwnS K r h) {fo : DE} {fa : DA} {g : St} {H : Hp} {Q : VK} (q : rd K W (eHdlM h fo fa) g H Q) : tBM K "list" r (rd K W fo) (rda K W fa) g H Q := by
  refine Rdg.bind (R := VR K) (k := fun e o S1 => if lstHd S1 o then bnd (fa e S1) fun as S2 => hdlM h S2 o as else .no) q fun L0 io0 H0 L io H1 e S o v fr ro q => ?_
  cases hl : lstHd S o with
  | false => rw [hl] at q; exact q.elim
  | true =>
    rw [hl] at q
    cases o with
    | hdl k =>
      cases ro with
      | hdl hk =>
        rename_i a
        simp only [lstHd] at hl
        cases hS : S[k]? with
        | none => rw [hS] at hl; cases hl
        | some ob =>
          rw [hS] at hl
          cases ob with
          | lst l =>
            obtain ⟨xs, e1, _⟩ := fr.st.obj k a _ hk hS
            refine ⟨.inl ⟨rfl, xs, SqL.of e1⟩, ?_⟩
            refine Fin.bind (R := VRs K) (k := fun as S2 => hdlM h S2 (.hdl k) as) fr q fun L2 io2 H2 S2 as vs s2 fr2 r2 q => ?_
            simp only [hdlM] at q
            have hk2 : io2[k]? = some a := by
              obtain ⟨m, rfl⟩ := s2.pre
              exact io_keep hk
            cases hS2 : S2[k]? with
            | none => rw [hS2] at q; exact q.elim
            | some ob2 =>
              rw [hS2] at q
              cases ob2 with
              | lst l2 =>
                simp only at q
                cases hh : h l2 as with
                | none => rw [hh] at q; exact q.elim
                | some z =>
                  obtain ⟨l', d⟩ := z
                  rw [hh] at q
                  obtain ⟨ys, e2, r3⟩ := fr2.st.obj k a _ hk2 hS2
                  have ma : a ∈ io2 := List.mem_of_getElem? hk2
                  have la : L2 a := fr2.st.sub a ma
                  refine hs L2 io2 H2 S2 a ys l2 vs as l' d Q fr2.st e2 la r3 r2 hh fun zs w rz rw' => ?_
                  exact q w _ L2 io2 (Stp.mutH ma) (fr2.st.setH hk2 ⟨zs, upd_same, rz.mut la⟩) (rw'.mut la)
              | _ => exact q.elim
          | _ => cases hl
    | _ => simp [lstHd] at hl
/-- append, extend, insert, reverse -/
def appD (l as : List Dv) : Option (List Dv × Dv) := match as with
  | [d] => if l.length < sizeLine then some (l ++ [d], .non) else none
  | _ => none
theorem owns_app {K : PySem.W.Frag} : OwnS K rAppend appD := by
  intro L io H S p xs l vs as l' d Q sr hp lp rx ra hh q
  cases ra with
  | nil => cases hh
  | cons r t =>
    cases t with
    | cons => cases hh
    | nil =>
      simp only [appD] at hh
      split at hh
      · rename_i hl
        cases hh
        exact ⟨p, xs, _, rfl, rfl, hp, by rw [rx.len]; exact hl, q _ _ (rx.app (.cons r .nil)) .non⟩
      · cases hh
section
variable {X : Cx} {W : WX} {pos apos cpos p1 : Pos} {a o e : Expr} {es : List Expr} {f fo fv : DE} {fa : DA} {x name : Str} {id : String} {r : V → List V → Hp → VK → Prop} {h : List Dv → List Dv → Option (List Dv × Dv)}
theorem qe_hdlM (slot : Slot "list" name id) (hty : typeOf (.builtin id) = pure (.type "method_descriptor")) (hm : MtR X id r) (hs : OwnS X.K r h) (ho : QE X W o fo) (ha : QA X W (e :: es) fa)
    (hbase : attributeBase o name X.env (eval o X.env) = eval o X.env := by rfl)
    (hfew : ((backTo cpos (starEach (e :: es) X.env)).all (fun x => !x.1) && (backToKw cpos (keywordEach [] X.env)).all (fun x => x.1.isSome)
      && decide ((e :: es).length + ([] : List Keyword).length + (if ([] : List Keyword).isEmpty then 0 else 1) < 30)) = true := by rfl)
    (hline : (apos.endLine == cpos.line) = true := by rfl) (hst : starEach (e :: es) X.env = (false, eval e X.env) :: starEach es X.env := by rfl) (hplain : (backTo cpos (starEach es X.env)).any (·.1) = false := by rfl) :
    QE X W (.Call (.Attribute o name apos) (e :: es) [] cpos) (eHdlM h fo fa) := pe_imp (pe_bm PySem.F.plainAttrs_list slot hty hm ho ha hbase hfew hline hst hplain) fun g H Q q => rd_hdlM hs q
end
end DL
namespace DL
open PySem L2
theorem outR.bind {α β : Type} {K : PySem.W.Frag} {W : WX} {R : (Addr → Prop) → List Addr → Hp → β → α → Prop} {f : Env → Sto → Res α} {k : Env → α → Sto → Out} {D : Ends} {g : St} {L0 L : Addr → Prop} {io0 io : List Addr} {H0 H : Hp} {e : Env} {S : Sto} {P : β → Hp → Prop}
    (fr : FR K L0 io0 H0 L io H g e S) (h : outR K W L0 io0 H0 D L io H (sBind f k e S))
    (n : ∀ (L1 : Addr → Prop) (io1 : List Addr) (H1 : Hp) (S1 : Sto) (a : α) (v : β), Stp L io H L1 io1 H1 → FR K L0 io0 H0 L1 io1 H1 g e S1 → R L1 io1 H1 v a → outR K W L0 io0 H0 D L1 io1 H1 (k e a S1) → P v H1) : Rdg K W R f g H P := by
  unfold sBind at h
  refine ⟨L0, io0, H0, L, io, e, S, fr, ?_⟩
  cases hf : f e S with
  | ok a S1 =>
    rw [hf] at h
    intro v H1 L1 io1 s1 sr1 r1
    exact n L1 io1 H1 S1 a v s1 (fr.step s1 sr1) r1 (outR.later h (s1.stw fr.st.sub))
  | ex c fs S1 =>
    rw [hf] at h
    exact fun x H' L' io' s sr r => h x g H' L' io' (s.stw fr.st.sub) (fr.step s sr) r
  | no => rw [hf] at h; exact h
def setD (S : Sto) (o i v : Dv) : Option Sto := match o, i with
  | .hdl k, .int n => match S[k]? with
    | some (.lst l) => match ixN l.length n with
      | some j => some (S.set k (.lst (l.set j v)))
      | none => none
    | _ => none
  | _, _ => none
theorem setD_ok {K : PySem.W.Frag} {L : Addr → Prop} {io : List Addr} {H : Hp} {S S' : Sto} {o i v : Dv} {vo vi vv : V} (sr : SR K L io H S) (ro : VR K L io H vo o) (ri : VR K L io H vi i) (rv : VR K L io H vv v) (h : setD S o i v = some S') {Q : Hp → Prop}
    (q : ∀ H', Stp L io H L io H' → SR K L io H' S' → Q H') : rSetL vo vi vv H Q := by
  cases o with
  | hdl k =>
    cases i with
    | int n =>
      simp only [setD] at h
      cases hS : S[k]? with
      | none => rw [hS] at h; cases h
      | some ob =>
        rw [hS] at h
        cases ob with
        | lst l =>
          simp only at h
          cases hj : ixN l.length n with
          | none => rw [hj] at h; cases h
          | some j =>
            rw [hj] at h
            cases h
            cases ri
            cases ro with
            | hdl hk =>
              rename_i a
              obtain ⟨xs, e1, r1⟩ := sr.obj k a _ hk hS
              have ma : a ∈ io := List.mem_of_getElem? hk
              refine ⟨a, xs, n, j, rfl, rfl, e1, by rw [r1.len]; exact hj, ?_⟩
              exact q _ (Stp.mutH ma) (sr.setH hk ⟨_, upd_same, (VRs.set rv j r1).mut (sr.sub a ma)⟩)
        | _ => cases h
    | _ => cases h
  | _ => cases h
def sSetI (fo fi fv : DE) : DS := sBind fv fun e v S1 => sBind fo (fun e o S2 => sBind fi (fun e i S3 => match setD S3 o i v with
  | some S4 => .nx e S4
  | none => .no) e S2) e S1
section
variable {X : Cx} {W : WX} {pos tpos : Pos} {a o i : Expr} {fo fi fv : DE}
theorem qs_setI (ho : QE X W o fo) (hi : QE X W i fi) (hv : QE X W a fv)
    (hp : ∀ {to ti tv}, PE X o to → PE X i ti → PE X a tv → PS X (.Assign [.Subscript o i tpos] a pos) (tAsg tv (gSub to ti rSetL)) := by intro _ _ _ h1 h2 h3; exact ps_asg h3 (pg_sub h1 h2 set_list)) : QS X W (.Assign [.Subscript o i tpos] a pos) (sSetI fo fi fv) := ps_imp (hp ho hi hv) fun D g H h => by
  refine rds_bind (R := VR X.K) (k := fun e v S1 => sBind fo (fun e o S2 => sBind fi (fun e i S3 => match setD S3 o i v with
    | some S4 => .nx e S4
    | none => .no) e S2) e S1) h fun L0 io0 H0 L io H1 e S d v fr rv q => ?_
  refine outR.bind (R := VR X.K) (k := fun e o S2 => sBind fi (fun e i S3 => match setD S3 o i d with
    | some S4 => .nx e S4
    | none => .no) e S2) fr q fun L2 io2 H2 S2 od vo s2 fr2 ro q => ?_
  refine outR.bind (R := VR X.K) (k := fun e i S3 => match setD S3 od i d with
    | some S4 => .nx e S4
    | none => .no) fr2 q fun L3 io3 H3 S3 id vi s3 fr3 ri q => ?_
  cases hS : setD S3 od id d with
  | none => rw [hS] at q; exact q.elim
  | some S4 =>
    rw [hS] at q
    exact setD_ok fr3.st (ro.step s3 fr2.st.sub) ri ((rv.step s2 fr.st.sub).step s3 fr2.st.sub) hS fun H' s sr => q g H' L3 io3 (s.stw fr3.st.sub) (fr3.step s sr)
theorem get_list : PGet X (rIxL X.K) := by
  intro pins s g H x y v u Q I rx ry h
  obtain ⟨p, xs, i, z, rfl, rfl, hq, he, q⟩ := h
  cases rx
  obtain ⟨t, rfl⟩ := ry
  obtain ⟨its, r, pl, hz⟩ := I.list hq
  obtain ⟨j, h1, h2, h3, h4, h5⟩ := atI_get he
  obtain ⟨w, ew, rw'⟩ := r.get h2
  have hl := r.length
  have hn := line63
  have fin : EP X pins g Q w s := ⟨z, H, I, rw', q⟩
  by_cases h0 : 0 ≤ i
  · have hj : i.toNat = j := by
      rw [seqIndex_of h0 h5] at h1
      exact Option.some.inj h1
    exact wpAny_getItem_list pl.isList h0 (by omega) (by rw [hj]; simpa using ew) fin
  · have hj : (i + (its.toArray.size : Int)).toNat = j := by
      rw [seqIndex_neg (by omega) h4] at h1
      rw [List.size_toArray, ← hl]
      exact Option.some.inj h1
    exact wpAny_getItem_list_neg pl.isList (by omega) (by rw [List.size_toArray] <;> omega) (by omega) (by rw [hj]; simpa using ew) fin
def ixL (S : Sto) (d i : Dv) : Option Dv := match i with
  | .int i => (asL S d).bind fun l => atI l i
  | _ => none
def addI : Dv → Dv → Option Dv := iop fun i j => some (.int (i + j))
def subI : Dv → Dv → Option Dv := iop fun i j => some (.int (i - j))
def sAugI (op : Dv → Dv → Option Dv) (fo fi fv : DE) : DS := sBind fo fun e o S1 => sBind fi (fun e i S2 => match ixL S2 o i with
  | some x => sBind fv (fun e y S3 => match op x y with
    | some z => (match setD S3 o i z with
      | some S4 => .nx e S4
      | none => .no)
    | none => .no) e S2
  | none => .no) e S1
def IpS (K : PySem.W.Frag) (t : TIp) (op : Dv → Dv → Option Dv) : Prop := ∀ L io H x y a b d (Q : VK), VR K L io H x a → VR K L io H y b → op a b = some d → (∀ v, VR K L io H v d → Q v H) → t x y H Q
theorem ips_add {K : PySem.W.Frag} : IpS K (ipI fun i j => i + j) addI := by
  intro L io H x y a b d Q ra rb e q
  cases ra with
  | int i =>
    cases rb with
    | int j => cases e; exact ⟨i, j, rfl, rfl, q _ (.int _)⟩
    | _ => cases e
  | _ => cases e
theorem qs_augI {op : Operator} {tip : TIp} {od : Dv → Dv → Option Dv} (hop : PIp X op tip) (hod : IpS X.K tip od) (ho : QE X W o fo) (hi : QE X W i fi) (hv : QE X W a fv)
    (ha : ∀ ov iv new, augStore i ov iv new = (do holding [new, ov, iv] (setItem ov iv new); release [new, ov, iv] []; pure .next) := by intros; rfl) : QS X W (.AugAssign (.Subscript o i tpos) op a pos) (sAugI od fo fi fv) := ps_imp (ps_augS ho hi get_list hv hop set_list ha) fun D g H h => by
  refine rds_bind (R := VR X.K) (k := fun e o S1 => sBind fi (fun e i S2 => match ixL S2 o i with
    | some x => sBind fv (fun e y S3 => match od x y with
      | some z => (match setD S3 o i z with
        | some S4 => .nx e S4
        | none => .no)
      | none => .no) e S2
    | none => .no) e S1) h fun L0 io0 H0 L io H1 e S d v fr rv q => ?_
  refine outR.bind (R := VR X.K) (k := fun e i S2 => match ixL S2 d i with
    | some x => sBind fv (fun e y S3 => match od x y with
      | some z => (match setD S3 d i z with
        | some S4 => .nx e S4
        | none => .no)
      | none => .no) e S2
    | none => .no) fr q fun L2 io2 H2 S2 di vi s2 fr2 ri q => ?_
  have rv2 := rv.step s2 fr.st.sub
  cases hx : ixL S2 d di with
  | none => rw [hx] at q; exact q.elim
  | some x =>
    rw [hx] at q
    simp only at q
    cases di with
    | int n =>
      simp only [ixL] at hx
      cases hl : asL S2 d with
      | none => rw [hl] at hx; cases hx
      | some l =>
        rw [hl] at hx
        obtain ⟨p, xs, rfl, hs, t⟩ := asL_ok fr2.st rv2 hl
        obtain ⟨w, h3, h4⟩ := t.atI hx
        cases ri
        refine ⟨p, xs, n, w, rfl, rfl, hs, h3, ?_⟩
        refine outR.bind (R := VR X.K) (k := fun e y S3 => match od x y with
          | some z => (match setD S3 d (.int n) z with
            | some S4 => .nx e S4
            | none => .no)
          | none => .no) fr2 q fun L3 io3 H3 S3 dy vy s3 fr3 ry q => ?_
        cases hz : od x dy with
        | none => rw [hz] at q; exact q.elim
        | some z =>
          rw [hz] at q
          simp only at q
          refine hod L3 io3 H3 w vy x dy z _ (h4.step s3 fr2.st.sub) ry hz fun vz rz => ?_
          cases hS : setD S3 d (.int n) z with
          | none => rw [hS] at q; exact q.elim
          | some S4 =>
            rw [hS] at q
            exact setD_ok fr3.st (rv2.step s3 fr2.st.sub) (.int n) rz hS fun H' s sr => q g H' L3 io3 (s.stw fr3.st.sub) (fr3.step s sr)
    | _ => cases hx
/-- x += e -/
def sAug (op : Dv → Dv → Option Dv) (n : Nat) (fv : DE) : DS := fun e S => match e[n]? with
  | some (.va x) => sBind fv (fun e y S1 => match op x y with
    | some z => .nx (e.set n (.va z)) S1
    | none => .no) e S
  | _ => .no
end
def startE (n : Nat) (l : List Dv) : Env := l.map Sl.va ++ List.replicate (n - l.length) .no
def runF (np n : Nat) (fb : DS) : DF := fun S l => if l.length = np then (match fb (startE n l) S with
  | .rt d S' => .ok d S'
  | .nx _ S' => .ok .non S'
  | .ex c fs _ S' => .ex c fs S'
  | _ => .no) else .no
theorem VRs.map_get {K : PySem.W.Frag} {L : Addr → Prop} {io : List Addr} {H : Hp} {vs : List V} {l : List Dv} (r : VRs K L io H vs l) {i : Nat} {d : Dv} {n m : Nat} (h : (l.map Sl.va ++ List.replicate n Sl.no)[i]? = some (.va d)) : ∃ v, (vs.map some ++ List.replicate m (none : Option V))[i]? = some (some v) ∧ VR K L io H v d := by
  by_cases hi : i < l.length
  · rw [List.getElem?_append_left (by rw [List.length_map]; exact hi), List.getElem?_map] at h
    cases q : l[i]? with
    | none => rw [q] at h; cases h
    | some z =>
      rw [q] at h
      cases h
      obtain ⟨v, h1, h2⟩ := r.get q
      refine ⟨v, ?_, h2⟩
      rw [List.getElem?_append_left (by rw [List.length_map, r.len]; exact hi), List.getElem?_map, h1]
      rfl
  · rw [List.getElem?_append_right (by rw [List.length_map]; omega), List.getElem?_replicate] at h
    split at h <;> cases h
theorem start_no {l : List Dv} {n i : Nat} {s : Sl} (h : (l.map Sl.va ++ List.replicate n Sl.no)[i]? = some s) : (∃ d, s = .va d) ∨ s = .no := by
  by_cases hi : i < l.length
  · rw [List.getElem?_append_left (by rw [List.length_map]; exact hi), List.getElem?_map] at h
    cases q : l[i]? with
    | none => rw [q] at h; cases h
    | some z => rw [q] at h; cases h; exact .inl ⟨z, rfl⟩
  · rw [List.getElem?_append_right (by rw [List.length_map]; omega), List.getElem?_replicate] at h
    split at h
    · cases h; exact .inr rfl
    · cases h
theorem fr_start {K : PySem.W.Frag} {L : Addr → Prop} {io : List Addr} {H : Hp} {S : Sto} {vs : List V} {l : List Dv} {N : List Str} (sr : SR K L io H S) (r : VRs K L io H vs l) : FR K L io H L io H (L2.start N vs) (startE N.length l) S where
  st := sr
  len := by
    unfold L2.start startE
    rw [List.length_append, List.length_append, List.length_map, List.length_map, List.length_replicate, List.length_replicate, r.len]
  va := fun i d h => r.map_get h
  own := fun i m h => by rcases start_no h with ⟨d, z⟩ | z <;> cases z
  inj := fun i j p _ v1 _ n1 _ g1 _ => by
    cases h : (startE N.length l)[i]? with
    | none =>
      have h1 := List.getElem?_eq_none_iff.mp h
      have h2 := (List.getElem?_eq_some_iff.mp g1).1
      unfold L2.start at h2
      unfold startE at h1
      rw [List.length_append, List.length_map, List.length_replicate] at h1 h2
      rw [r.len] at h2
      omega
    | some s =>
      rcases start_no h with ⟨d, z⟩ | z
      · rw [z] at h; exact absurd h (v1 d)
      · rw [z] at h; exact absurd h n1
  en := Stp.refl ..
  sub0 := sr.sub
  dom0 := sr.dom
section
variable {P : Program} {w : World} {K : PySem.W.Frag} {mg : Str → Option Value} {base : Heap} {CX : CXT} {name qual : Str} {params : Arguments} {body : List Stmt} {scope : Scope} {dvs : List V} {kws : List (Str × V)} {f : Addr} {fd : FuncData} {N ps : List Str} {k : Nat} {fb : DS}
/-- what leaves the frame -/
theorem leave {L0 L : Addr → Prop} {io0 io : List Addr} {H0 H : Hp} {S : Sto} (sr : SR K L io H S) (s : Stp L0 io0 H0 L io H) (sub0 : ∀ a ∈ io0, L0 a) : Stp L0 io0 H0 (Lx L0 io) io H ∧ SR K (Lx L0 io) io H S ∧ (∀ a, Lx L0 io a → L a) := by
  have hl : ∀ a, Lx L0 io a → L a := fun a z => z.elim (s.up a) (sr.sub a)
  refine ⟨⟨s.pre, s.hn, fun a z => z.elim .inl fun z => (s.hn a z).elim (fun q => .inl (sub0 a q)) .inr, s.keep, fun a z => .inl z⟩, sr.less hl fun a z => .inr z, hl⟩
/-- a def of the text, by its body's walk: as fn_of, the calls' room without guards -/
theorem fng_of {dV kV doc pm cdv ct oc : Value} {an od : Option Addr} {osl : Array (Option Value)} {sp : Sp} (lk : K.lookup f = some ⟨oc, od, .func (PySem.W.fnOf name qual params body scope dV kV doc pm an cdv ct), osl⟩) (hc : PySem.W.codeIn K cdv qual = true) (Sc : FnScope N ps scope)
    (hl : ∀ vs H Q E, sp vs H Q E → vs.length = ps.length)
    (hb : ∀ (A : Around) (up : List PySem.Env) (s : Shared) (H : Hp) (vs : List V) (Q : VK) (E : XK), RoomG k (A.deeper (PyProof.Rows.envOfC qual scope s.heap.objs.size f cdv)) → sp vs H Q E →
      ∃ t, PSs (cxOf (L2.CX P w) P w K mg base N qual scope f cdv A up s H E) body t ∧ t { nx := fun _ H' => Q .non H', rt := Q } (L2.start N vs) H) :
    FnG P w K mg base (k + 1) f (PySem.W.fnOf name qual params body scope dV kV doc pm an cdv ct) ps sp := by
  constructor
  · exact hl
  intro A up s H args us vs Q E room e0 bd rv q
  have kin := e0.mod.kin.keeps fun b o z => (e0.bs b o z).1
  have nol := e0.mod.nolimit.keeps fun b o z => (e0.bs b o z).1
  have kinds : ∀ y ∈ ps.zip us, scope.names.lookup y.1 = some .local ∨ (scope.names.lookup y.1 = some .cell ∧ ((PySem.cellsFrom (s.heap.objs.size + 1) scope.names []).lookup y.1).isSome = true) := by
    rintro ⟨n, v⟩ hy
    have := Sc.par n (List.of_mem_zip hy).1
    rcases this with z | z
    · exact .inl z
    · exact .inr ⟨z, PySem.W.cellsFrom_some _ _ _ (.inl z)⟩
  refine codeAny_call_function room.r.depth (kin _ _ lk) rfl Sc.co Sc.gen rfl (PySem.W.codeRec_of kin hc) (bd _ _ _ _ ?_)
  refine wpAny_newFunctionEnv_cells Sc.kind kinds fun env he s1 x => ?_
  cases he
  obtain ⟨t, ht, hq⟩ := hb A up s H vs Q E (room.deeper _) q
  have I0 := inv_start (CX := L2.CX P w) (E := E) Sc room.r.hd e0 (hl _ _ _ _ q) rv x
  refine ⟨nol.keeps x.toInCall.keep, codeAny_func (wpAny_mono (ht.run [] s1 _ H _ I0 hq) ?_ fun _ _ z => z)⟩
  intro fl s' z
  match fl, z with
  | .ret u, ⟨v, g', H', J, r, q⟩ => exact ⟨v, H', J.os, J.bare, J.base, J.hok, r, q⟩
  | .next, ⟨g', H', J, q⟩ => exact ⟨.non, H', J.os, J.bare, J.base, J.hok, rfl, q⟩
  | .brk, ⟨_, _, _, q⟩ => exact q.elim
  | .cont, ⟨_, _, _, q⟩ => exact q.elim
/-- the body of a def as a piece over data -/
abbrev BodyG (P : Program) (w : World) (K : PySem.W.Frag) (mg : Str → Option Value) (base : Heap) (N : List Str) (qual : Str) (scope : Scope) (f : Addr) (k : Nat) (body : List Stmt) (fb : DS) : Prop :=
  ∀ (cdv : Value) (A : Around) (up : List PySem.Env) (s : Shared) (H : Hp) (E : XK), RoomG k (A.deeper (PyProof.Rows.envOfC qual scope s.heap.objs.size f cdv)) → Takes (cxOf (L2.CX P w) P w K mg base N qual scope f cdv A up s H E) (fun c d _ H => E c d H) →
    PassesOwn (model P w) (A.deeper (PyProof.Rows.envOfC qual scope s.heap.objs.size f cdv)) (PyProof.Rows.envOfC qual scope s.heap.objs.size f cdv) (cxOf (L2.CX P w) P w K mg base N qual scope f cdv A up s H E).xe →
    QSs (cxOf (L2.CX P w) P w K mg base N qual scope f cdv A up s H E) (fun c d _ H => E c d H) body fb
theorem fn_mk (F : FunD K name qual params body scope dvs kws f fd) (Sc : FnScope N ps scope) (hb : BodyG P w K mg base N qual scope f k body fb) :
    FnG P w K mg base (k + 1) f fd ps (spD K (runF ps.length N.length fb)) := by
  obtain ⟨oc, od, dV, kV, doc, pm, an, cdv, ct, osl, rfl, lk, hcd, _, _⟩ := F.ex
  refine fng_of lk hcd Sc (fun vs H Q E h => ?_) fun A outer s H vs Q E hr h => ⟨_, hb cdv A outer s H E hr (takes_of rfl rfl rfl rfl) (passes_of rfl), ?_⟩
  · obtain ⟨L, io, S, l, sr, r, h⟩ := h
    unfold runF at h
    by_cases hl : l.length = ps.length
    · rw [r.len, hl]
    · rw [if_neg hl] at h; exact h.elim
  · obtain ⟨L, io, S, l, sr, r, h⟩ := h
    unfold runF at h
    by_cases hl : l.length = ps.length
    · rw [if_pos hl] at h
      refine ⟨L, io, H, L, io, startE N.length l, S, fr_start sr r, ?_⟩
      show outR K _ L io H _ L io H (fb (startE N.length l) S)
      cases hf : fb (startE N.length l) S with
      | nx e S' =>
        rw [hf] at h
        intro g H' L' io' sw fr
        obtain ⟨s1, s2, s3⟩ := leave fr.st fr.en fr.sub0
        exact h .non H' io' s1 s2 .non
      | rt d S' =>
        rw [hf] at h
        intro v H' L' io' sr' s r'
        obtain ⟨s1, s2, s3⟩ := leave sr' s sr.sub
        exact h v H' io' s1 s2 (r'.less s3)
      | ex c fs e S' =>
        rw [hf] at h
        intro x g H' L' io' sw fr rx
        obtain ⟨s1, s2, s3⟩ := leave fr.st fr.en fr.sub0
        obtain ⟨a, vs', e1, e2, e3, e4⟩ := rx
        exact h x H' io' s1 s2 ⟨a, vs', e1, fun z => e2 (s3 a z), e3, e4.mono fun v d r => r.less s3⟩
      | _ => rw [hf] at h; exact h.elim
    · rw [if_neg hl] at h; exact h.elim
end
end DL
namespace DL
open PySem L2
mutual
def litB (K : PySem.W.Frag) : Dv → Value → Bool
  | .non, .none => true
  | .bl b, .bool c => b == c
  | .int i, .int j _ => decide (i = j)
  | .str x, .str y _ => decide (x = y)
  | .tup l, .ref a => (match K.lookup a with
    | some ⟨.type c, none, .seq its _, _⟩ => decide (c = "tuple") && (decide (its.size ≤ sizeLine) && litsB K l its.toList)
    | _ => false)
  | .rol l, .ref a => (match K.lookup a with
    | some ⟨.type c, none, .seq its _, _⟩ => decide (c = "list") && (decide (its.size ≤ sizeLine) && litsB K l its.toList)
    | _ => false)
  | _, _ => false
def litsB (K : PySem.W.Frag) : List Dv → List Value → Bool
  | [], [] => true
  | d :: l, u :: us => litB K d u && litsB K l us
  | _, _ => false
end
/-- a def of the module as a value -/
theorem qe_glo {X : Cx} {W : WX} {pos : Pos} {x : Str} (hm : X.mg x = some (.ref (He.ga X.K x))) (hg : Gl X x := by rfl) (hd : (x == ("__debug__" : Str)) = false := by decide) : QE X W (.Name x pos) (eC (.glo x)) := qe_glob (v := .ref (He.ga X.K x)) hm rfl (fun _ _ _ => .glo x) hg hd
inductive Ft where
  | glo (x : Str) | free (x : Str) | con (x : Str) (d : Dv) | any (p : PySem.W.Frag → Bool)
def Ft.ok (K : PySem.W.Frag) : Ft → Bool
  | .glo x => (He.Fa.glo x).ok K
  | .free x => (He.Fa.free x).ok K
  | .con x d => (match PySem.W.nsIn K mainGlobals x with
    | some (some u) => litB K d u
    | _ => false)
  | .any p => p K
def obsM (fa : List Ft) (fn : List He.DefD) (K : PySem.W.Frag) : He.AlD := ((fa.all fun f => f.ok K) && fn.all fun d => d.ok K, fn.map fun d => He.fnW K d.at_)
def SaysM (fa : List Ft) (fn : List He.DefD) (K : PySem.W.Frag) : Prop := obsM fa fn K = He.valD fn
section
variable {fa : List Ft} {fn : List He.DefD} {K : PySem.W.Frag}
theorem SaysM.fact (c : SaysM fa fn K) (i : Nat) {f : Ft} (h : fa[i]? = some f := by rfl) : f.ok K = true := by
  have c1 := (He.ba (show ((fa.all fun f => f.ok K) && fn.all fun d => d.ok K) = true from congrArg (fun z : He.AlD => z.1) c)).1
  exact List.all_eq_true.mp c1 f (List.mem_of_getElem? h)
theorem SaysM.def_ (c : SaysM fa fn K) (i : Nat) {d : He.DefD} (h : fn[i]? = some d := by rfl) : ∃ fd, FunD K d.name d.qual d.params d.body d.scope (d.dvs K) (d.kws K) (He.fAd K d.at_) fd := by
  have c2 := (He.ba (show ((fa.all fun f => f.ok K) && fn.all fun d => d.ok K) = true from congrArg (fun z : He.AlD => z.1) c)).2
  have e : fn.map (fun d => He.fnW K d.at_) = fn.map He.DefD.val := congrArg (fun z : He.AlD => z.2) c
  have e2 : (fn.map fun d => He.fnW K d.at_)[i]? = (fn.map He.DefD.val)[i]? := by rw [e]
  rw [List.getElem?_map, List.getElem?_map, h] at e2
  exact He.DefD.funD (Option.some.inj e2) (List.all_eq_true.mp c2 d (List.mem_of_getElem? h))
end
/-- a def of the module, from its body's walk -/
theorem fd_mk {P : Program} {w : World} {K : PySem.W.Frag} {mg : Str → Option Value} {base : Heap} {x : Str} {st : Stmt} {N ps : List Str} {k np n : Nat} {fb : DS} (F : ∃ fd, FunD K x x (defArgs st) (defBody st) (defScope st) [] [] (He.ga K x) fd) (hm : mg x = some (.ref (He.ga K x)))
    (Sc : FnScope N ps (defScope st))
    (hbi : ∀ (kV doc pm : Value) (an : Option Addr) (cdv ct : Value) (us : List Value), us.length = ps.length → bindArgs (PySem.W.fnOf x x (defArgs st) (defBody st) (defScope st) .none kV doc pm an cdv ct) ⟨us, []⟩ = pure (ps.zip us))
    (hnp : ps.length = np) (hn : N.length = n) (hb : BodyG P w K mg base N x (defScope st) (He.ga K x) (k + 1) (defBody st) fb) : FD P w K mg base (k + 2) x (runF np n fb) := by
  subst hnp hn
  obtain ⟨fd, F⟩ := F
  exact ⟨_, fd, ps, fn_mk F Sc hb, hm, rfl, F.kp, F.bindsN hbi⟩
/-- .. of which nothing is asked -/
theorem fd_no {P : Program} {w : World} {K : PySem.W.Frag} {mg : Str → Option Value} {base : Heap} {x : Str} {st : Stmt} {ps : List Str} {k : Nat} (F : ∃ fd, FunD K x x (defArgs st) (defBody st) (defScope st) [] [] (He.ga K x) fd) (hm : mg x = some (.ref (He.ga K x)))
    (hbi : ∀ (kV doc pm : Value) (an : Option Addr) (cdv ct : Value) (us : List Value), us.length = ps.length → bindArgs (PySem.W.fnOf x x (defArgs st) (defBody st) (defScope st) .none kV doc pm an cdv ct) ⟨us, []⟩ = pure (ps.zip us)) : FD P w K mg base k x gNo := by
  obtain ⟨fd, F⟩ := F
  exact ⟨_, fd, ps, FnG.never spD_no, hm, rfl, F.kp, F.bindsN hbi⟩
/-- sys.modules stands in the heap -/
def SysB (h : Heap) : Prop := ∃ mm, h.Ns sysModules mm
section
variable {P : Program} {w : World} {K : PySem.W.Frag} {mg mb : Str → Option Value} {k : Nat} {fa a : Addr} {fd : FuncData} {x : Str} {sp : Sp} {s1 : Shared} {vs : List Value} {ns : List Int}
/-- over an abstract heap that knows the script at most -/
theorem law_over (KX : K.In s1.heap) (G : s1.heap.Ns mainGlobals mg) (B : s1.heap.Ns builtinsNs mb) (hB : ∀ y : Str, y ≠ "__name__" → mb y = bootBuiltins y) (nl : s1.heap.NoLimit) (ng : s1.gens = #[]) (hs : SysB s1.heap)
    (oa : s1.heap.get? a = some { cls := .type "list", data := .seq vs.toArray }) (hr : RoomG k callerA)
    (F : ∀ base : Heap, K.In base → base.Ns mainGlobals mg → SysB base → FnG P w K mg base k fa fd [x] sp) (bd : ∀ (s : Shared) (u : Value), BindsTo s fd ⟨[u], []⟩ [(x, u)])
    (H : Hp) (hO : Only H) (hok : HOk P w H s1.heap) (hA : ∀ b, H b ≠ none → b = a) (hK : H a ≠ none → K.lookup a = none)
    (q : sp [.ref a] H (fun v _ => v = .bl true) fun _ _ _ => False) :
    codeAny (model P w) callerA (.call (.ref fa) ⟨[.ref a], []⟩) (fun r s' => r = .ok (.ret (.bool true)) ∧ OldK s1.heap s'.heap ∧ s'.os = s1.os ∧ PyProof.Rows.AllBare s'.gens) s1 := by
  have free : ∀ {b : Addr} {o : Obj}, s1.heap.get? b = some o → (∀ its n, o.data ≠ .seq its n) → H b = none := by
    intro b o e hn
    by_cases hb : H b = none
    · exact hb
    · cases hA b hb
      rw [oa] at e
      cases e
      exact absurd rfl (hn _ _)
  have nsB : ∀ {b : Addr} {m : Str → Option Value}, s1.heap.Ns b m → (hidT s1.heap H).Ns b m := by
    rintro b m ⟨o, es, ep, e, d, r⟩
    exact ⟨o, es, ep, hidT_get e (free e fun its n z => by rw [d] at z; cases z), d, r⟩
  have KB : K.In (hidT s1.heap H) := by
    intro b o e
    refine hidT_get (KX b o e) ?_
    by_cases hb : H b = none
    · exact hb
    · cases hA b hb
      rw [hK hb] at e
      cases e
  obtain ⟨mc, l1, l2⟩ := nl
  have e0 : Env0 P w K mg (hidT s1.heap H) callerA [] s1 H :=
    { frames := rfl, mod := ⟨KB, nsB G, ⟨mb, nsB B, hB⟩, mc, nsB l1, l2⟩, bs := fun b o z => of_hidT z, bsz := Nat.le_of_eq (hidT_size _ _), funs := trivial, frf := fun b z => (nomatch (show b ∈ ([] : List Addr) from z)), hok := hok, bare := .of_eq ng }
  refine codeAny_mono ((F _ KB (nsB G) (let ⟨mm, z⟩ := hs; ⟨mm, nsB z⟩)).run _ [] s1 H _ [.ref a] [.ref a] _ _ hr e0 (bd s1 (.ref a)) (.cons rfl .nil) q) ?_
  intro r s' z
  match r, z with
  | .error e, ⟨_, _, _, _, _, _, _, _, _, _, _, _, z⟩ => exact z.elim
  | .ok .next, z => exact z.elim
  | .ok .brk, z => exact z.elim
  | .ok .cont, z => exact z.elim
  | .ok (.ret u), ⟨v, H', os, bare, un, hok', r', z⟩ =>
    cases (show v = .bl true from z)
    cases (show u = Value.bool true from r')
    refine ⟨rfl, OldK.of_keep fun b o e => ?_, os, bare⟩
    rcases hO b with hb | ⟨ob, xs, hb⟩
    · exact un.keep b o e hb (fun z => nomatch (show b ∈ ([] : List Addr) from z)) (fun z => nomatch z)
    · have e1 := (hok b _ hb).1
      have e2 := (hok' b _ (un.frzs b ob _ hb)).1
      rw [e] at e1
      rw [e2, ← e1]
theorem law_g (KX : K.In s1.heap) (G : s1.heap.Ns mainGlobals mg) (B : s1.heap.Ns builtinsNs mb) (hB : ∀ y : Str, y ≠ "__name__" → mb y = bootBuiltins y) (nl : s1.heap.NoLimit) (ng : s1.gens = #[]) (hs : SysB s1.heap)
    (oa : s1.heap.get? a = some { cls := .type "list", data := .seq vs.toArray }) (hi : PyProof.Rows.IntsAre vs ns) (hl : ns.length ≤ sizeLine) (hr : RoomG k callerA)
    (F : ∀ base : Heap, K.In base → base.Ns mainGlobals mg → SysB base → FnG P w K mg base k fa fd [x] sp) (bd : ∀ (s : Shared) (u : Value), BindsTo s fd ⟨[u], []⟩ [(x, u)])
    (q : ∀ H : Hp, SqL K H a (ns.map V.int) → sp [.ref a] H (fun v _ => v = .bl true) fun _ _ _ => False) :
    codeAny (model P w) callerA (.call (.ref fa) ⟨[.ref a], []⟩) (fun r s' => r = .ok (.ret (.bool true)) ∧ OldK s1.heap s'.heap ∧ s'.os = s1.os ∧ PyProof.Rows.AllBare s'.gens) s1 := by
  have rv := vals_ints hi
  have hv := hi.length
  by_cases hk : ∃ o, K.lookup a = some o
  · obtain ⟨o, hk⟩ := hk
    have e := KX a o hk
    rw [oa] at e
    cases e
    refine law_over KX G B hB nl ng hs oa hr F bd (fun _ => none) (fun _ => .inl rfl) (fun _ _ z => nomatch z) (fun _ z => (z rfl).elim) (fun z => (z rfl).elim) (q _ (.inr ⟨_, vs.toArray, _, hk, rfl, rfl, rfl, ?_, by simpa using rv⟩))
    rw [List.size_toArray, hv]
    exact hl
  · have hk' : K.lookup a = none := by
      cases z : K.lookup a with
      | none => rfl
      | some o => exact absurd ⟨o, z⟩ hk
    let u : HO := .frz { cls := .type "list", data := .seq vs.toArray } (.lst (ns.map V.int))
    have at_ : ∀ b v, upd (fun _ => none) a u b = some v → b = a ∧ v = u := by
      intro b v z
      by_cases hb : b = a
      · subst hb
        rw [upd_same] at z
        cases z
        exact ⟨rfl, rfl⟩
      · rw [upd_ne hb] at z
        cases z
    refine law_over KX G B hB nl ng hs oa hr F bd (upd (fun _ => none) a u) (fun b => ?_) (fun b v z => ?_) (fun b z => ?_) (fun _ => hk') (q _ (.inl (.inr ⟨_, upd_same⟩)))
    · by_cases hb : b = a
      · exact .inr ⟨_, _, by rw [hb]; exact upd_same⟩
      · exact .inl (upd_ne hb)
    · obtain ⟨rfl, rfl⟩ := at_ b v z
      exact ⟨oa, by rw [List.length_map]; exact hl, vs, _, rv, oa⟩
    · cases h : upd (fun _ => none) a u b with
      | none => exact absurd h z
      | some v => exact (at_ b v h).1
end
/-- the goal that the head leaves -/
theorem walk_g {l : PySem.W.OpenLaw} {n k : Nat} {q : Program} {loose : List Str} {XP : (Str → Option Value) → Heap → Prop} {YP : World → Heap → Prop} {d : DefRec} {x : Str} (hn : l.most = some n) (hz : n ≤ sizeLine) (hd : d.params.defaults = []) (him : PyProof.Rows.importsNone q = true) (hr : RoomG k callerA)
    (F : ∀ (w : World) (mg : Str → Option Value) (fa : Addr) (h : Heap), YP w h → h.Ns mainGlobals mg → mg d.name = some (.ref fa) → ∃ (K : PySem.W.Frag) (fd : FuncData) (sp : Sp), K.In h ∧ (∀ (s : Shared) (u : Value), BindsTo s fd ⟨[u], []⟩ [(x, u)]) ∧
      (∀ (H : Hp) (a : Addr) (ns : List Int), ns.length ≤ n → SqL K H a (ns.map V.int) → sp [.ref a] H (fun v _ => v = .bl true) fun _ _ _ => False) ∧ ∀ base : Heap, K.In base → base.Ns mainGlobals mg → SysB base → FnG l.prog w K mg base k fa fd [x] sp) :
    PySem.W.WalkO q loose XP YP l.row.toRowW d [] (fun f vs => PySem.call f vs) := by
  refine Att.attach_call hn hd fun w s0 s1 mg mb fa o pm cd doc a vs ns G Y ho hd' hcd hm oa hi hl ng => ?_
  obtain ⟨K, fd, sp, KX, bd, q, hF⟩ := F w mg fa _ Y G.T.g hm
  exact law_g KX G.T.g G.T.b G.T.builtins G.T.nolimit ng (let ⟨mm, z, _⟩ := (G.T.seer him).mods; ⟨mm, z⟩) oa hi (Nat.le_trans hl hz) hr hF bd fun H hS => q H a ns hl hS
/-- the law's end -/
theorem law_end {K : PySem.W.Frag} {g : DF} (h : ∀ ns : List Int, ns.length ≤ 63 → ∃ S, g [] [.rol (ns.map .int)] = .ok (.bl true) S) (H : Hp) (a : Addr) (ns : List Int) (hl : ns.length ≤ 63) (hS : SqL K H a (ns.map V.int)) : spD K g [.ref a] H (fun v _ => v = .bl true) fun _ _ _ => False := by
  obtain ⟨S, e⟩ := h ns hl
  have hv : ∀ ns : List Int, VRs K (fun _ => False) [] H (ns.map V.int) (ns.map Dv.int) := fun ns => by
    induction ns with
    | nil => exact .nil
    | cons n r ih => exact .cons (.int n) ih
  refine ⟨fun _ => False, [], [], [.rol (ns.map .int)], ⟨rfl, .nil, fun _ h => (nomatch h), fun _ h => h.elim, fun k a o h => by simp at h⟩, .cons ?_ .nil, ?_⟩
  · rcases hS with hS | hS
    · exact .rol (fun z => z) hS (hv ns)
    · exact .rolK (fun H' => .inr hS) (hv ns)
  · rw [e]
    intro v H' io' _ _ r
    cases r
    rfl
end DL
namespace DL
open PySem L2
theorem call_isiA {X : Cx} : CallR X (.builtin "isinstance") (rIsiA X.K) := CallR.or call_isi (CallR.or call_isiT call_isiK)
section
variable {X : Cx} {W : WX} {elt tg iter : Expr} {ifs : List Expr} {scope : Scope} {own : List (Str × Nat)} {pos spos py : Pos} {fi : DL} {gd : DG} {tt : DT} {te : DE} {y : Str}
/-- -e -/
def negD : Dv → Sto → Res Dv
  | .int i, S => .ok (.int (-i)) S
  | _, _ => .no
def eNeg (f : DE) : DE := fun e S => bnd (f e S) negD
theorem qe_neg {a : Expr} {f : DE} (h : QE X W a f) : QE X W (.UnaryOp .USub a pos) (eNeg f) := pe_imp (pe_un un_neg h) fun g H Q q => by
  refine Rdg.bind (R := VR X.K) (k := fun _ => negD) q fun L0 io0 H0 L io H1 e S d v fr rv q => ?_
  cases rv with
  | int i => exact ⟨i, rfl, q.ok1 fr.st (.int _)⟩
  | _ => exact q.elim
end
end DL
namespace DL
open PySem L2
def keyD : Dv → Option Key
  | .int i => some (.inl i)
  | .str x => some (.inr x)
  | _ => none
def dV : Key → Dv
  | .inl i => .int i
  | .inr x => .str x
section
variable {K : PySem.W.Frag} {L L' : Addr → Prop} {io io' : List Addr} {H H' : Hp} {S : Sto}
theorem keyD_ok {v : V} {d : Dv} {k : Key} (r : VR K L io H v d) (h : keyD d = some k) : v = kV k := by
  cases r with
  | int i => cases h; rfl
  | str i => cases h; rfl
  | _ => cases h
theorem VR.key (k : Key) : VR K L io H (kV k) (dV k) := by
  cases k with
  | inl i => exact .int i
  | inr x => exact .str x
def valD (l : List (Key × Dv)) (k : Key) : Option Dv := (l.find? fun kv => decide (kv.1 = k)).map (·.2)
def putD (l : List (Key × Dv)) (k : Key) (d : Dv) : List (Key × Dv) := if (l.any fun kv => decide (kv.1 = k)) = true then l.map (fun kv => if kv.1 = k then (kv.1, d) else kv) else l ++ [(k, d)]
def dropD (l : List (Key × Dv)) (k : Key) : List (Key × Dv) := l.filter fun kv => decide (kv.1 ≠ k)
def mergeD (l more : List (Key × Dv)) : List (Key × Dv) := more.foldl (fun acc kv => putD acc kv.1 kv.2) l
theorem VRp.pair : ∀ {kvs : List (Key × V)} {l : List (Key × Dv)}, VRp K L io H kvs l → PairR (VR K L io H) kvs l
  | _, _, .nil => .nil
  | _, _, .cons h t => .cons ⟨rfl, h⟩ (VRp.pair t)
theorem PairR.vrp : ∀ {kvs : List (Key × V)} {l : List (Key × Dv)}, PairR (VR K L io H) kvs l → VRp K L io H kvs l
  | _, _, .nil => .nil
  | (k, v) :: _, (k', d) :: _, .cons ⟨h1, h2⟩ t => by
    cases (show k = k' from h1)
    exact .cons h2 (PairR.vrp t)
theorem PairR.val {R : V → Dv → Prop} : ∀ {kvs : List (Key × V)} {l : List (Key × Dv)} (k : Key), PairR R kvs l → (∀ d, valD l k = some d → ∃ v, valV kvs k = some v ∧ R v d) ∧ (valD l k = none → valV kvs k = none)
  | [], _, k, .nil => ⟨fun d h => (by simp [valD] at h), fun _ => rfl⟩
  | (k1, v) :: kvs, (k2, d) :: l, k, .cons ⟨h1, h2⟩ t => by
    cases (show k1 = k2 from h1)
    have ih := PairR.val k t
    unfold valD valV at ih ⊢
    by_cases e : k1 = k
    · subst e
      refine ⟨fun d' h => ?_, fun h => ?_⟩
      · simp at h; subst h; exact ⟨v, by simp, h2⟩
      · simp at h
    · rw [List.find?_cons, List.find?_cons]
      simp only [e, decide_false]
      exact ih
theorem PairR.any {R : V → Dv → Prop} (k : Key) : ∀ {kvs : List (Key × V)} {l : List (Key × Dv)}, PairR R kvs l → (kvs.any fun kv => decide (kv.1 = k)) = l.any fun kv => decide (kv.1 = k)
  | _, _, .nil => rfl
  | (k1, v) :: kvs, (k2, d) :: l, .cons ⟨h1, h2⟩ t => by
    cases (show k1 = k2 from h1)
    rw [List.any_cons, List.any_cons, PairR.any k t]
theorem PairR.app {R : V → Dv → Prop} : ∀ {kvs kvs' : List (Key × V)} {l l' : List (Key × Dv)}, PairR R kvs l → PairR R kvs' l' → PairR R (kvs ++ kvs') (l ++ l')
  | _, _, _, _, .nil, h => h
  | _, _, _, _, .cons h t, h2 => .cons h (PairR.app t h2)
theorem PairR.mapP {R : V → Dv → Prop} {k : Key} {v : V} {d : Dv} (h : R v d) : ∀ {kvs : List (Key × V)} {l : List (Key × Dv)}, PairR R kvs l → PairR R (kvs.map fun kv => if kv.1 = k then (kv.1, v) else kv) (l.map fun kv => if kv.1 = k then (kv.1, d) else kv)
  | _, _, .nil => .nil
  | (k1, v1) :: kvs, (k2, d1) :: l, .cons ⟨h1, h2⟩ t => by
    cases (show k1 = k2 from h1)
    rw [List.map_cons, List.map_cons]
    refine .cons ?_ (PairR.mapP h t)
    by_cases e : k1 = k
    · rw [if_pos e, if_pos e]; exact ⟨rfl, h⟩
    · rw [if_neg e, if_neg e]; exact ⟨rfl, h2⟩
theorem PairR.put {R : V → Dv → Prop} {k : Key} {v : V} {d : Dv} {kvs : List (Key × V)} {l : List (Key × Dv)} (r : PairR R kvs l) (h : R v d) : PairR R (putK kvs k v) (putD l k d) := by
  unfold putK putD
  rw [r.any k]
  split
  · exact r.mapP h
  · exact r.app (.cons ⟨rfl, h⟩ .nil)
theorem PairR.drop {R : V → Dv → Prop} (k : Key) : ∀ {kvs : List (Key × V)} {l : List (Key × Dv)}, PairR R kvs l → PairR R (dropK kvs k) (dropD l k)
  | _, _, .nil => .nil
  | (k1, v1) :: kvs, (k2, d1) :: l, .cons ⟨h1, h2⟩ t => by
    cases (show k1 = k2 from h1)
    have ih := PairR.drop k t
    unfold dropK dropD at ih ⊢
    rw [List.filter_cons, List.filter_cons]
    by_cases e : k1 = k
    · simp only [e, ne_eq, not_true, decide_false, Bool.false_eq_true, if_false]; exact ih
    · simp only [ne_eq, e, not_false_iff, decide_true, if_true]; exact .cons ⟨rfl, h2⟩ ih
end
def NewD (K : PySem.W.Frag) (H : Hp) (L' : Addr → Prop) (io' : List Addr) (H' : Hp) (v : V) (l : List (Key × Dv)) : Prop := ∃ p kvs, v = .ref p ∧ H p = none ∧ L' p ∧ p ∉ io' ∧ H' p = some (.dK kvs) ∧ PairR (VR K L' io' H') kvs l
abbrev DD := Env → Sto → Res (List (Key × Dv))
def FinD (K : PySem.W.Frag) (W : WX) (g : St) (L : Addr → Prop) (io : List Addr) (H : Hp) (Q : V → Hp → Prop) : Res (List (Key × Dv)) → Prop
  | .ok d S' => ∀ (v : V) (H' : Hp) (L' : Addr → Prop) (io' : List Addr), Stp L io H L' io' H' → SR K L' io' H' S' → NewD K H L' io' H' v d → Q v H'
  | .ex c fs S' => ∀ (x : Option Addr) (H' : Hp) (L' : Addr → Prop) (io' : List Addr), Stp L io H L' io' H' → SR K L' io' H' S' → ExR K L' io' H' x fs → W (.ref (He.ga K c)) x g H'
  | .no => False
def rdD (K : PySem.W.Frag) (W : WX) (f : DD) : TE := fun g H Q => ∃ (L0 : Addr → Prop) (io0 : List Addr) (H0 : Hp) (L : Addr → Prop) (io : List Addr) (e : Env) (S : Sto), FR K L0 io0 H0 L io H g e S ∧ FinD K W g L io H Q (f e S)
abbrev QD (X : Cx) (W : WX) (e : Expr) (f : DD) : Prop := PE X e (rdD X.K W f)
def eFrzD (f : DD) : DE := fun e S => bnd (f e S) fun l S' => .ok (.dic l) S'
/-- {} -/
def dNil : DD := fun _ S => .ok [] S
theorem qd_nil {X : Cx} {W : WX} {pos : Pos} : QD X W (.Dict [] [] pos) dNil := pe_imp pe_dnewK fun g H Q q => by
  obtain ⟨L0, io0, H0, L, io, e, S, fr, q⟩ := q
  intro p hp
  exact q _ _ (Ly L p) io (Stp.newV hp) (fr.st.newV hp) ⟨p, [], rfl, hp, .inr rfl, fun z => fr.st.dom p (fr.st.sub p z) hp, upd_same, .nil⟩
/-- {k: v, ..} -/
abbrev DP := Env → Sto → Res (List (Dv × Dv))
def pNil : DP := fun _ S => .ok [] S
def pCons (fk fv : DE) (fp : DP) : DP := fun e S => bnd (fk e S) fun k S1 => bnd (fv e S1) fun v S2 => bnd (fp e S2) fun l S3 => .ok ((k, v) :: l) S3
section
variable {X : Cx} {W : WX} {pos : Pos} {k v o i : Expr} {ks : List (Option Expr)} {vs : List Expr} {fk fv f f2 : DE} {fp : DP}
def keysD : List (Dv × Dv) → Option (List (Key × Dv))
  | [] => some []
  | (k, v) :: r => (keyD k).bind fun k' => (keysD r).map fun l => (k', v) :: l
def kDisp (l : List (Dv × Dv)) (S : Sto) : Res (List (Key × Dv)) := match keysD l with
  | some m => if m.length ≤ 15 then .ok (mergeD [] m) S else .no
  | none => .no
def dDisp (fp : DP) : DD := fun e S => bnd (fp e S) kDisp
theorem FinD.later {K : PySem.W.Frag} {g : St} {L L1 : Addr → Prop} {io io1 : List Addr} {H H1 : Hp} {S1 : Sto} {Q : V → Hp → Prop} {r : Res (List (Key × Dv))} (h : FinD K W g L io H Q r) (s : Stp L io H L1 io1 H1) (sub : ∀ x ∈ io, L x) (sr1 : SR K L1 io1 H1 S1) : FinD K W g L1 io1 H1 Q r := by
  cases r with
  | ok l S2 =>
    intro v H' L' io' s2 sr2 ⟨p, xs, e1, e2, e3⟩
    refine h v H' L' io' (s.trans s2 sub) sr2 ⟨p, xs, e1, ?_, e3⟩
    rcases s.back e2 with z | z
    · exact absurd e2 (sr1.dom p (s.up p (sub p z)))
    · exact z
  | ex c fs S2 => exact fun v H' L' io' s2 sr r2 => h v H' L' io' (s.trans s2 sub) sr r2
  | no => exact h
/-- d[k], of a frozen dict or a handle's -/
def asD (S : Sto) : Dv → Option (List (Key × Dv))
  | .dic l => some l
  | .hdl k => match S[k]? with
    | some (.dct l) => some l
    | _ => none
  | _ => none
end
def kStrM (h : Sto → Str → List Dv → Option (Dv × Sto)) (fa : DA) (e : Env) (d : Dv) (S : Sto) : Res Dv := match d with
  | .str z => bnd (fa e S) fun as S2 => ofO (h S2 z as)
  | _ => .no
def eStrM (h : Sto → Str → List Dv → Option (Dv × Sto)) (f : DE) (fa : DA) : DE := fun e S => bnd (f e S) (kStrM h fa e)
/-- len(found), found the slot's own -/
def eLenO (i : Nat) : DE := fun e S => match e[i]? with
  | some (.own (.lst l)) => .ok (.int l.length) S
  | _ => .no
/-- what is a slot's own becomes a handle's -/
def sHdl (i : Nat) : DS := fun e S => match e[i]? with
  | some (.own o) => .nx (e.set i (.va (.hdl S.length))) (S ++ [o])
  | _ => .no
end DL
namespace DL
open PySem L2
def insOf (S : Sto) : Dv → Option (Str × List (Str × Dv))
  | .obj c fs => some (c, fs)
  | .hdl k => match S[k]? with
    | some (.ins c fs) => some (c, fs)
    | _ => none
  | _ => none
section
variable {K : PySem.W.Frag} {L L' : Addr → Prop} {io io' : List Addr} {H H' : Hp} {S : Sto}
def putFD (f : Str) (d : Dv) : List (Str × Dv) → List (Str × Dv)
  | [] => [(f, d)]
  | (g, x) :: r => if g = f then (g, d) :: r else (g, x) :: putFD f d r
theorem PairR.size {R : V → Dv → Prop} : ∀ {vs : List (Str × V)} {fs : List (Str × Dv)}, PairR R vs fs → vs.length = fs.length
  | [], _, .nil => rfl
  | _ :: vs, _ :: fs, .cons _ t => by rw [List.length_cons, List.length_cons, PairR.size t]
end
/-- o.f -/
def kFld (c f : Str) (d : Dv) (S : Sto) : Res Dv := match insOf S d with
  | some (c', fs) => if c' = c then (match fs.lookup f with
    | some x => .ok x S
    | none => .no) else .no
  | none => .no
def eFld (c f : Str) (fo : DE) : DE := fun e S => bnd (fo e S) (kFld c f)
section
variable {X : Cx} {W : WX} {pos pos' : Pos} {o a : Expr} {f c : Str} {fo fv : DE}
/-- o.f = v, o a handle -/
def setF (c f : Str) (S : Sto) (o v : Dv) : Option Sto := match o with
  | .hdl k => match S[k]? with
    | some (.ins c' fs) => if c' = c ∧ fs.length < 1000 then some (S.set k (.ins c' (putFD f v fs))) else none
    | _ => none
  | _ => none
end
def kMeth (c m : Str) (dl : List Dv) (g : DF) (fa : DA) (e : Env) (d : Dv) (S : Sto) : Res Dv := match insOf S d with
  | some (c', fs) => if c' = c ∧ (fs.lookup m).isNone = true then bnd (fa e S) fun as S2 => g S2 (d :: (as ++ dl)) else .no
  | none => .no
def eMeth (c m : Str) (dl : List Dv) (g : DF) (fo : DE) (fa : DA) : DE := fun e S => bnd (fo e S) (kMeth c m dl g fa e)
mutual
def noH : Dv → Bool
  | .tup l => noHs l
  | .lst l => noHs l
  | .rol l => noHs l
  | .dic l => noHp l
  | .obj _ fs => noHf fs
  | .ext _ _ _ l => noHs l
  | .hdl _ => false
  | _ => true
def noHs : List Dv → Bool
  | [] => true
  | d :: l => noH d && noHs l
def noHp : List (Key × Dv) → Bool
  | [] => true
  | (_, d) :: l => noH d && noHp l
def noHf : List (Str × Dv) → Bool
  | [] => true
  | (_, d) :: l => noH d && noHf l
end
section
variable {K : PySem.W.Frag} {L L' : Addr → Prop} {io io' : List Addr} {H H' : Hp}
theorem VR.noh (hl : ∀ a o, H a = some o → ¬ L a → H' a = some o ∧ ¬ L' a) : ∀ {v : V} {d : Dv}, VR K L io H v d → noH d = true → VR K L' io' H' v d := by
  intro v d h
  refine VR.rec (motive_1 := fun v d _ => noH d = true → VR K L' io' H' v d) (motive_2 := fun vs ds _ => noHs ds = true → VRs K L' io' H' vs ds) (motive_3 := fun vs ds _ => noHp ds = true → VRp K L' io' H' vs ds) (motive_4 := fun vs ds _ => noHf ds = true → VRf K L' io' H' vs ds) ?_ ?_ ?_ ?_ ?_ ?_ ?_ ?_ ?_ ?_ ?_ ?_ ?_ ?_ ?_ ?_ ?_ ?_ ?_ ?_ ?_ h
  · exact fun _ => .non
  · exact fun b _ => .bl b
  · exact fun i _ => .int i
  · exact fun x _ => .str x
  · intro a xs ds nl e _ ih n
    exact .tup (hl a _ e nl).2 (hl a _ e nl).1 (ih (by simpa [noH] using n))
  · exact fun h _ ih n => .tupK h (ih (by simpa [noH] using n))
  · intro a xs ds nl e _ ih n
    exact .lst (hl a _ e nl).2 (hl a _ e nl).1 (ih (by simpa [noH] using n))
  · intro a xs ds nl r _ ih n
    obtain ⟨o, e⟩ := rd_some r
    exact .rol (hl a o e nl).2 (rd_keep r fun o e => (hl a o e nl).1) (ih (by simpa [noH] using n))
  · exact fun h _ ih n => .rolK h (ih (by simpa [noH] using n))
  · intro a xs ds nl r _ ih n
    obtain ⟨o, e⟩ := rd_some r
    exact .dic (hl a o e nl).2 (rd_keep r fun o e => (hl a o e nl).1) (ih (by simpa [noH] using n))
  · intro a dx c vs fs nl e _ ih n
    exact .obj (hl a _ e nl).2 (hl a _ e nl).1 (ih (by simpa [noH] using n))
  · exact fun h n => by simp [noH] at n
  · exact fun x _ => .glo x
  · exact fun n _ => .ty n
  · intro a t c ns vs ds os h0 hk ho _ ih n
    exact .ext h0 hk (fun p hp => ⟨(hl _ _ (ho p hp).2 (ho p hp).1).2, (hl _ _ (ho p hp).2 (ho p hp).1).1⟩) (ih (by simpa [noH] using n))
  · exact fun _ => .nil
  · exact fun _ _ h1 h2 n => by
      simp only [noHs, Bool.and_eq_true] at n
      exact .cons (h1 n.1) (h2 n.2)
  · exact fun _ => .nil
  · exact fun _ _ h1 h2 n => by
      simp only [noHp, Bool.and_eq_true] at n
      exact .cons (h1 n.1) (h2 n.2)
  · exact fun _ => .nil
  · exact fun _ _ h1 h2 n => by
      simp only [noHf, Bool.and_eq_true] at n
      exact .cons (h1 n.1) (h2 n.2)
end
theorem make_guards {A : Around} {C : Addr} {us : List Value} {kw : List (Str × Value)} : (A.under (.builtin "type.__call__" ⟨.ref C :: us, kw⟩)).guards = A.guards := by
  first
    | rfl
    | (simp [Around.under, Code.guards, pushGuards, Code.isGuard, guardIds])
theorem RoomG.make {k : Nat} {A : Around} (h : RoomG (k + 1) A) (C : Addr) (us : List Value) (kw : List (Str × Value)) : RoomG k (A.under (.builtin "type.__call__" ⟨.ref C :: us, kw⟩)) := ⟨h.r.make C us kw, make_guards.trans h.g⟩
end DL
namespace DL
open PySem L2
structure Dfn where
  ad : PySem.W.Frag → Addr
  name : Str
  qual : Str
  params : Arguments
  body : List Stmt
  scope : Scope
  dfl : List He.Dv := []
  kwd : List (Str × He.Dv) := []
def fnA (K : PySem.W.Frag) (a : Addr) : He.FnW := match K.lookup a with
  | some ⟨_, _, .func fd, _⟩ => some (fd.name, fd.qualname, fd.params, fd.body, fd.scope, fd.globals, fd.closure, fd.builtins)
  | _ => none
def Dfn.val (d : Dfn) : He.FnW := some (d.name, d.qual, d.params, .stmts d.body, d.scope, mainGlobals, [], builtinsNs)
def Dfn.dvs (K : PySem.W.Frag) (d : Dfn) : List V := d.dfl.map (He.Dv.v K)
def Dfn.kws (K : PySem.W.Frag) (d : Dfn) : List (Str × V) := d.kwd.map fun q => (q.1, q.2.v K)
def Dfn.ok (K : PySem.W.Frag) (d : Dfn) : Bool := PySem.W.keepIn K (.ref (d.ad K)) && (match K.lookup (d.ad K) with
  | some ⟨_, _, .func fd, _⟩ => PySem.W.codeIn K fd.code d.qual && (He.dflB K fd.defaults (d.dvs K) && He.kwdB K fd.kwdefaults (d.kws K))
  | _ => false)
theorem Dfn.funD {K : PySem.W.Frag} {d : Dfn} (e : fnA K (d.ad K) = d.val) (c : d.ok K = true) : ∃ fd, FunD K d.name d.qual d.params d.body d.scope (d.dvs K) (d.kws K) (d.ad K) fd := by
  obtain ⟨kp, c2⟩ := He.ba c
  unfold fnA at e
  cases q : K.lookup (d.ad K) with
  | none =>
    rw [q] at c2
    cases c2
  | some o =>
    obtain ⟨oc, od, dt, osl⟩ := o
    rw [q] at c2 e
    cases dt with
    | func fd =>
      obtain ⟨n1, n2, n3, n4, n5, n6, n7, n8, n9, n10, n11, n12, n13, n14, n15⟩ := fd
      have e2 : (some (n1, n2, n3, n4, n5, n6, n7, n15) : He.FnW) = some (d.name, d.qual, d.params, .stmts d.body, d.scope, mainGlobals, [], builtinsNs) := e
      simp only [Option.some.injEq, Prod.mk.injEq] at e2
      obtain ⟨h1, h2, h3, h4, h5, h6, h7, h8⟩ := e2
      subst h1 h2 h3 h4 h5 h6 h7 h8
      have c3 : (PySem.W.codeIn K n13 d.qual && (He.dflB K n8 (d.dvs K) && He.kwdB K n9 (d.kws K))) = true := c2
      obtain ⟨k1, k2⟩ := He.ba c3
      obtain ⟨k3, k4⟩ := He.ba k2
      exact ⟨_, ⟨oc, od, n8, n9, n10, n11, n12, n13, n14, osl, rfl, q, k1, He.dflB_ok k3, He.kwdB_ok k4⟩, kp⟩
    | _ => cases c2
abbrev AlN : Type := (Bool × List He.FnW) × List (Option (List (Option (Str × Int))))
def obsN (fa : List Ft) (fn : List Dfn) (ts : List He.Tab) (K : PySem.W.Frag) : AlN := (((fa.all fun f => f.ok K) && fn.all fun d => d.ok K, fn.map fun d => fnA K (d.ad K)), ts.map fun t => He.dicW K (t.1 K))
def valN (fn : List Dfn) (ts : List He.Tab) (w : World) : AlN := ((true, fn.map Dfn.val), ts.map fun t => some (He.keysIn w.params t.2))
def SaysN (fa : List Ft) (fn : List Dfn) (ts : List He.Tab) (w : World) (K : PySem.W.Frag) : Prop := obsN fa fn ts K = valN fn ts w
section
variable {fa : List Ft} {fn : List Dfn} {ts : List He.Tab} {w : World} {K : PySem.W.Frag}
theorem SaysN.fact (c : SaysN fa fn ts w K) (i : Nat) {f : Ft} (h : fa[i]? = some f := by rfl) : f.ok K = true := by
  have c1 := (He.ba (show ((fa.all fun f => f.ok K) && fn.all fun d => d.ok K) = true from congrArg (fun z : AlN => z.1.1) c)).1
  exact List.all_eq_true.mp c1 f (List.mem_of_getElem? h)
theorem SaysN.def_ (c : SaysN fa fn ts w K) (i : Nat) {d : Dfn} (h : fn[i]? = some d := by rfl) : ∃ fd, FunD K d.name d.qual d.params d.body d.scope (d.dvs K) (d.kws K) (d.ad K) fd := by
  have c2 := (He.ba (show ((fa.all fun f => f.ok K) && fn.all fun d => d.ok K) = true from congrArg (fun z : AlN => z.1.1) c)).2
  have e : fn.map (fun d => fnA K (d.ad K)) = fn.map Dfn.val := congrArg (fun z : AlN => z.1.2) c
  have e2 : (fn.map fun d => fnA K (d.ad K))[i]? = (fn.map Dfn.val)[i]? := by rw [e]
  rw [List.getElem?_map, List.getElem?_map, h] at e2
  exact Dfn.funD (Option.some.inj e2) (List.all_eq_true.mp c2 d (List.mem_of_getElem? h))
end
end DL
namespace DL
open PySem PySem.Spec PyProof.Rows L2
def tabD (l : List (Str × Dv)) (d : Dv) (S : Sto) : Res Dv := match d with
  | .str z => (match l.lookup z with
    | some x => .ok x S
    | none => .no)
  | _ => .no
def eTab (l : List (Str × Dv)) (fi : DE) : DE := fun e S => bnd (fi e S) (tabD l)
def revD (d : Dv) (S : Sto) : Res Dv := match d with
  | .tup l => .ok (.tup l.reverse) S
  | _ => .no
def eRevT (f : DE) : DE := fun e S => bnd (f e S) revD
def idxS (z : Str) : List Dv → Option Nat
  | [] => none
  | .str y :: l => if y = z then some 0 else (idxS z l).map (· + 1)
  | _ => none
def allS : List Dv → Bool
  | [] => true
  | .str _ :: l => allS l
  | _ => false
def tixE (l : List Dv) (x : Dv) (S : Sto) : Res Dv := match x with
  | .str z => if allS l then (match idxS z l with
    | some n => .ok (.int (n : Nat)) S
    | none => .no) else .no
  | _ => .no
end DL
namespace DL
open PySem PySem.Spec PyProof.Rows L2
def eCm (c : Str) (g : DF) (fa : DA) : DE := fun e S => bnd (fa e S) fun l S1 => g S1 (.glo c :: l)
section
variable {P : Program} {w : World} {K : PySem.W.Frag} {mg : Str → Option Value} {base : Heap} {c m qual : Str} {st : Stmt} {N ps : List Str} {k np n : Nat} {fb : DS}
/-- a def's binding of values alone, no defaults -/
abbrev BindN (m qual : Str) (st : Stmt) (ps : List Str) : Prop := ∀ (kV doc pm : Value) (an : Option Addr) (cdv ct : Value) (us : List Value), us.length = ps.length → bindArgs (PySem.W.fnOf m qual (defArgs st) (defBody st) (defScope st) .none kV doc pm an cdv ct) ⟨us, []⟩ = pure (ps.zip us)
end
def readB (c : Str) : Ft := .any fun K => PySem.W.readsIn K (He.ga K c) (.type "type")
theorem read_f {K : PySem.W.Frag} {c : Str} (h : (readB c).ok K = true) : ClX.CRead K (He.ga K c) (.type "type") := by
  have h0 : PySem.W.readsIn K (He.ga K c) (.type "type") = true := h
  refine ⟨h0, ?_⟩
  unfold PySem.W.readsIn at h0
  obtain ⟨h, _⟩ := He.ba h0
  obtain ⟨h, _⟩ := He.ba h
  obtain ⟨h, h3⟩ := He.ba h
  obtain ⟨_, h2⟩ := He.ba h
  unfold PySem.W.specialIn
  rw [beq_iff_eq.mp h2, Option.bind_some]
  exact beq_iff_eq.mp h3
end DL
namespace DL
open PySem PySem.Spec PyProof.Rows L2
section
variable {K : PySem.W.Frag} {L : Addr → Prop} {io : List Addr} {H : Hp}
/-- a list or tuple that no handle holds -/
def asSq : Dv → Option (Bool × List Dv)
  | .lst l => some (true, l)
  | .rol l => some (true, l)
  | .tup l => some (false, l)
  | _ => none
def enumD (l : List Dv) : List Dv := l.mapIdx fun i d => .tup [.int (i : Nat), d]
def zipD (l m : List Dv) : List Dv := (l.zip m).map fun q => .tup [q.1, q.2]
end
def enumR : List Dv → Sto → Res (List Dv)
  | [d], S => match asSq d with
    | some (_, l) => .ok (enumD l) S
    | none => .no
  | _, _ => .no
def zipR : List Dv → Sto → Res (List Dv)
  | [d, d2], S => match asSq d, asSq d2 with
    | some (_, l), some (_, m) => .ok (zipD l m) S
    | _, _ => .no
  | _, _ => .no
def iEnum' (fa : DA) : DL := fun e S => bnd (fa e S) enumR
def iZip' (fa : DA) : DL := fun e S => bnd (fa e S) zipR
end DL
namespace DL
open PySem L2
end DL
namespace DL
open PySem L2
def eChn (h h' : Sto → Dv → Dv → Option (Dv × Sto)) (f1 f2 f3 : DE) : DE := fun e S => bnd (f1 e S) fun a S1 => bnd (f2 e S1) fun b S2 => bnd (ofO (h S2 a b)) fun z S3 => match z with
  | .bl true => bnd (f3 e S3) fun c S4 => ofO (h' S4 b c)
  | .bl false => .ok (.bl false) S3
  | _ => .no
def rngK (neg : Bool) (a : Dv) (l : List Dv) (S : Sto) : Res Dv := match a, l with
  | .int i, [.int lo, .int hi] => .ok (.bl (if neg then !decide (lo ≤ i ∧ i < hi) else decide (lo ≤ i ∧ i < hi))) S
  | _, _ => .no
def eRngIn (neg : Bool) (f1 : DE) (fa : DA) : DE := fun e S => bnd (f1 e S) fun a S1 => bnd (fa e S1) fun l S2 => rngK neg a l S2
/-- data as a whole, dicts too -/
def keyP : Key → PyData
  | .inl i => .int i
  | .inr x => .str x
mutual
inductive Dq (K : PySem.W.Frag) (H : Hp) : V → PyData → Prop
  | non : Dq K H .non .none
  | bl (b : Bool) : Dq K H (.bl b) (.bool b)
  | int (i : Int) : Dq K H (.int i) (.int i)
  | str (x : Str) : Dq K H (.str x) (.str x)
  | lst {a : Addr} {xs : List V} {ds : List PyData} : SqL K H a xs → DqAll K H xs ds → Dq K H (.ref a) (.list ds)
  | tup {a : Addr} {xs : List V} {ds : List PyData} : SqT K H a xs → DqAll K H xs ds → Dq K H (.ref a) (.tuple ds)
  | dct {a : Addr} {kvs : List (Key × V)} {ds : List PyData} : Rd H a (.dK kvs) → DqAll K H (kvs.map (·.2)) ds → Dq K H (.ref a) (.dict ((kvs.map fun q => keyP q.1).zip ds))
inductive DqAll (K : PySem.W.Frag) (H : Hp) : List V → List PyData → Prop
  | nil : DqAll K H [] []
  | cons {v : V} {vs : List V} {d : PyData} {ds : List PyData} : Dq K H v d → DqAll K H vs ds → DqAll K H (v :: vs) (d :: ds)
end
theorem DqAll.len {K : PySem.W.Frag} {H : Hp} : ∀ {vs : List V} {ds : List PyData}, DqAll K H vs ds → vs.length = ds.length
  | _, _, .nil => rfl
  | _, _, .cons _ t => by rw [List.length_cons, List.length_cons, t.len]
section
variable {X : Cx} {pins : List (Addr × Obj)} {σ : St} {H : Hp} {s : Shared}
/-- keys of a dict are read -/
theorem keys_read {P : Program} {w : World} {h : Heap} : ∀ {es : List DictEntry} {vs : List (Key × Value)}, Pairs (mixKind P w) es vs → ReadsAll h (es.map (·.key)) (vs.map fun q => keyP q.1) []
  | _, _, .nil => .nil
  | e :: es, (k, v) :: vs, .cons hk hv t => by
    have h1 : Reads h e.key (keyP k) [] := by
      rcases keyIs_shape (k := k) (v := e.key) hk with ⟨i, u, rfl, e1⟩ | ⟨x, u, rfl, e1⟩
      · rw [e1]; exact .int i u
      · rw [e1]; exact .str x u
    exact .cons (as := []) h1 (keys_read t)
theorem vals_at {P : Program} {w : World} : ∀ {es : List DictEntry} {vs : List (Key × Value)}, Pairs (mixKind P w) es vs → es.map (·.val) = vs.map (·.2)
  | _, _, .nil => rfl
  | e :: es, (k, v) :: vs, .cons hk hv t => by
    have hv : e.val = v := hv
    rw [List.map_cons, List.map_cons, hv, vals_at t]
theorem kv_keys : ∀ {kvs : List (Key × V)} {vs : List (Key × Value)}, KV kvs vs → kvs.map (fun q => keyP q.1) = vs.map (fun q => keyP q.1) ∧ Vals (kvs.map (·.2)) (vs.map (·.2))
  | _, _, .nil => ⟨rfl, .nil⟩
  | _, _, .cons r t => by
    obtain ⟨h1, h2⟩ := kv_keys t
    exact ⟨by rw [List.map_cons, List.map_cons, h1, r.1], .cons r.2 h2⟩
theorem Dq.reads (I : Inv X pins σ H s) (hs : SysB X.base) {v : V} {d : PyData} (h : Dq X.K H v d) : ∀ u, RelV v u → ∃ as, Reads s.heap u d as ∧ sysModules ∉ as := by
  refine Dq.rec (motive_1 := fun v d _ => ∀ u, RelV v u → ∃ as, Reads s.heap u d as ∧ sysModules ∉ as) (motive_2 := fun vs ds _ => ∀ us, Vals vs us → ∃ as, ReadsAll s.heap us ds as ∧ sysModules ∉ as) ?_ ?_ ?_ ?_ ?_ ?_ ?_ ?_ ?_ h
  · intro u r; cases r; exact ⟨_, Reads.none, fun z => nomatch z⟩
  · intro b u r; cases r; exact ⟨_, Reads.bool b, fun z => nomatch z⟩
  · intro i u r; obtain ⟨t, rfl⟩ := r; exact ⟨_, Reads.int i t, fun z => nomatch z⟩
  · intro x u r; obtain ⟨t, rfl⟩ := r; exact ⟨_, Reads.str x t, fun z => nomatch z⟩
  · intro a xs ds hl _ ih u r
    cases r
    obtain ⟨its, rv, ⟨o, n, ho, hc, _, hd⟩, _⟩ := I.list hl
    obtain ⟨as, hr, hn⟩ := ih its rv
    refine ⟨_, Reads.list ho hc hd hr, fun z => ?_⟩
    rcases List.mem_cons.mp z with z | z
    · obtain ⟨mm, o', es, ep, e1, e2, _⟩ := hs
      have e3 := I.bk _ _ e1
      rw [z, ho] at e3
      cases e3
      rw [hd] at e2
      cases e2
    · exact hn z
  · intro a xs ds hl _ ih u r
    cases r
    obtain ⟨its, rv, ⟨o, ho, hc, n, hd⟩, _⟩ := I.tuple hl
    obtain ⟨as, hr, hn⟩ := ih its rv
    exact ⟨_, Reads.tuple ho hc hd hr, hn⟩
  · intro a kvs ds ha hv ih u r
    cases r
    obtain ⟨_, hsm, vs, kv, o, es, ep, e1, e2, e3, _, e5, _⟩ := dk_rd I.hok ha
    obtain ⟨k1, k2⟩ := kv_keys kv
    have hl : (kvs.map fun q => keyP q.1).length = ds.length := by rw [List.length_map, ← hv.len, List.length_map]
    obtain ⟨as, hr, hn⟩ := ih _ k2
    have q1 : ReadsAll s.heap (es.toList.map (·.key)) (((kvs.map fun q => keyP q.1).zip ds).map (·.1)) [] := by
      rw [List.map_fst_zip (Nat.le_of_eq hl), k1]; exact keys_read e5
    have q2 : ReadsAll s.heap (es.toList.map (·.val)) (((kvs.map fun q => keyP q.1).zip ds).map (·.2)) as := by
      rw [List.map_snd_zip (Nat.le_of_eq hl.symm), vals_at e5]; exact hr
    refine ⟨_, Reads.dict e1 e2.1 e3 q1 q2, fun z => ?_⟩
    simp only [List.cons_append, List.nil_append, List.mem_cons] at z
    rcases z with z | z
    · rw [z] at hsm; simp at hsm
    · exact hn z
  · intro us r; cases r; exact ⟨_, ReadsAll.nil, fun z => nomatch z⟩
  · intro v vs d ds _ _ ih1 ih2 us r
    cases r with
    | cons r1 r2 =>
      obtain ⟨as, q1, n1⟩ := ih1 _ r1
      obtain ⟨bs, q2, n2⟩ := ih2 _ r2
      exact ⟨_, ReadsAll.cons q1 q2, fun z => (List.mem_append.mp z).elim n1 n2⟩
end
mutual
def toQ : Dv → Option PyData
  | .non => some .none
  | .bl b => some (.bool b)
  | .int i => some (.int i)
  | .str x => some (.str x)
  | .tup l => (toQs l).map .tuple
  | .lst l => (toQs l).map .list
  | .rol l => (toQs l).map .list
  | .dic l => (toQp l).map fun ds => .dict ((l.map fun q => keyP q.1).zip ds)
  | .obj _ _ => none
  | .hdl _ => none
  | .glo _ => none
  | .ty _ => none
  | .ext _ _ _ _ => none
def toQs : List Dv → Option (List PyData)
  | [] => some []
  | d :: l => (toQ d).bind fun p => (toQs l).map fun ps => p :: ps
def toQp : List (Key × Dv) → Option (List PyData)
  | [] => some []
  | (_, d) :: l => (toQ d).bind fun p => (toQp l).map fun ps => p :: ps
end
theorem toQp_eq : ∀ l : List (Key × Dv), toQp l = toQs (l.map (·.2))
  | [] => rfl
  | (k, d) :: l => by
    rw [List.map_cons]
    unfold toQp toQs
    rw [toQp_eq l]
section
variable {K : PySem.W.Frag} {L : Addr → Prop} {io : List Addr} {H : Hp} {S : Sto}
theorem toQ_ok {v : V} {d : Dv} (r : VR K L io H v d) : ∀ p, toQ d = some p → Dq K H v p := by
  refine VR.rec (motive_1 := fun v d _ => ∀ p, toQ d = some p → Dq K H v p) (motive_2 := fun vs ds _ => ∀ ps, toQs ds = some ps → DqAll K H vs ps) (motive_3 := fun kvs l _ => (∀ ps, toQs (l.map (·.2)) = some ps → DqAll K H (kvs.map (·.2)) ps) ∧ (l.map fun q => keyP q.1) = kvs.map fun q => keyP q.1) (motive_4 := fun _ _ _ => True)
    ?_ ?_ ?_ ?_ ?_ ?_ ?_ ?_ ?_ ?_ ?_ ?_ ?_ ?_ ?_ ?_ ?_ ?_ ?_ ?_ ?_ r
  · intro p e; cases e; exact .non
  · intro b p e; cases e; exact .bl b
  · intro b p e; cases e; exact .int b
  · intro b p e; cases e; exact .str b
  · intro a xs ds _ h _ ih p e
    simp only [toQ] at e
    obtain ⟨ps, h1, rfl⟩ := map_ok e
    exact .tup (SqT.of h) (ih ps h1)
  · intro a xs ds h _ ih p e
    simp only [toQ] at e
    obtain ⟨ps, h1, rfl⟩ := map_ok e
    exact .tup (h.1 H) (ih ps h1)
  · intro a xs ds _ h _ ih p e
    simp only [toQ] at e
    obtain ⟨ps, h1, rfl⟩ := map_ok e
    exact .lst (SqL.of h) (ih ps h1)
  · intro a xs ds _ h _ ih p e
    simp only [toQ] at e
    obtain ⟨ps, h1, rfl⟩ := map_ok e
    exact .lst (.inl h) (ih ps h1)
  · intro a xs ds h _ ih p e
    simp only [toQ] at e
    obtain ⟨ps, h1, rfl⟩ := map_ok e
    exact .lst (h H) (ih ps h1)
  · intro a kvs l _ h _ ih p e
    simp only [toQ, toQp_eq] at e
    obtain ⟨ps, h1, rfl⟩ := map_ok e
    rw [ih.2]
    exact .dct h (ih.1 ps h1)
  · intro a dx c vs fs _ _ _ _ p e; simp [toQ] at e
  · intro a k _ p e; simp [toQ] at e
  · intro x p e; simp [toQ] at e
  · intro x p e; simp [toQ] at e
  · intro a t c ns vs ds os _ _ _ _ _ p e; simp [toQ] at e
  · intro ps e; simp [toQs] at e; subst e; exact .nil
  · intro v vs d ds _ _ ih1 ih2 ps e
    simp only [toQs] at e
    cases h1 : toQ d with
    | none => rw [h1] at e; cases e
    | some p =>
      rw [h1] at e
      obtain ⟨ps', h2, rfl⟩ := map_ok e
      exact .cons (ih1 p h1) (ih2 ps' h2)
  · exact ⟨fun ps e => by simp [toQs] at e; subst e; exact .nil, rfl⟩
  · intro k v vs d ds _ _ ih1 ih2
    refine ⟨fun ps e => ?_, by rw [List.map_cons, List.map_cons, ih2.2]⟩
    simp only [List.map_cons, toQs] at e
    cases h1 : toQ d with
    | none => rw [h1] at e; cases e
    | some p =>
      rw [h1] at e
      obtain ⟨ps', h2, rfl⟩ := map_ok e
      exact .cons (ih1 p h1) (ih2.1 ps' h2)
  · trivial
  · intros; trivial
theorem derefQ_all (n : Nat) (ih : ∀ (d : Dv) (v : V) (p : PyData), VR K L io H v d → toQ (deref n S d) = some p → Dq K H v p) : ∀ (l : List Dv) (vs : List V) (ps : List PyData), VRs K L io H vs l → toQs (l.map (deref n S)) = some ps → DqAll K H vs ps
  | [], vs, ps, r, e => by cases r; simp [toQs] at e; subst e; exact .nil
  | d :: l, vs, ps, r, e => by
    cases r with
    | cons h t =>
      simp only [toQs, List.map_cons] at e
      cases q : toQ (deref n S d) with
      | none => rw [q] at e; cases e
      | some p =>
        rw [q] at e
        obtain ⟨ps', q2, rfl⟩ := map_ok e
        exact .cons (ih d _ p h q) (derefQ_all n ih l _ ps' t q2)
theorem pair_vals : ∀ {kvs : List (Key × V)} {l : List (Key × Dv)}, PairR (VR K L io H) kvs l → VRs K L io H (kvs.map (·.2)) (l.map (·.2)) ∧ (l.map fun q => keyP q.1) = kvs.map fun q => keyP q.1
  | _, _, .nil => ⟨.nil, rfl⟩
  | _, _, .cons r t => by
    obtain ⟨h1, h2⟩ := pair_vals t
    exact ⟨.cons r.2 h1, by rw [List.map_cons, List.map_cons, h2, r.1]⟩
theorem derefQ_dic (n : Nat) (ih : ∀ (d : Dv) (v : V) (p : PyData), VR K L io H v d → toQ (deref n S d) = some p → Dq K H v p) {l : List (Key × Dv)} {kvs : List (Key × V)} {a : Addr} {p : PyData} (h : Rd H a (.dK kvs)) (t : PairR (VR K L io H) kvs l) (e : toQ (.dic (l.map fun q => (q.1, deref n S q.2))) = some p) : Dq K H (.ref a) p := by
  simp only [toQ, toQp_eq] at e
  obtain ⟨ps, h1, rfl⟩ := map_ok e
  obtain ⟨t1, t2⟩ := pair_vals t
  have e1 : (l.map fun q => (q.1, deref n S q.2)).map (·.2) = (l.map (·.2)).map (deref n S) := by simp [List.map_map, Function.comp_def]
  have e2 : ((l.map fun q => (q.1, deref n S q.2)).map fun q => keyP q.1) = kvs.map fun q => keyP q.1 := by rw [← t2]; simp [List.map_map, Function.comp_def]
  rw [e1] at h1
  rw [e2]
  exact .dct h (derefQ_all n ih _ _ ps t1 h1)
theorem derefQ (sr : SR K L io H S) : ∀ (n : Nat) (d : Dv) (v : V) (p : PyData), VR K L io H v d → toQ (deref n S d) = some p → Dq K H v p
  | 0, d, v, p, r, e => toQ_ok r p e
  | n + 1, .tup l, v, p, r, e => by
    obtain ⟨a, xs, rfl, s, t⟩ := r.tupS
    simp only [deref, toQ] at e
    obtain ⟨ps, q, rfl⟩ := map_ok e
    exact .tup s (derefQ_all n (derefQ sr n) l xs ps t q)
  | n + 1, .lst l, v, p, r, e => by
    simp only [deref, toQ] at e
    obtain ⟨ps, q, rfl⟩ := map_ok e
    cases r with
    | lst nl h t => exact .lst (SqL.of h) (derefQ_all n (derefQ sr n) l _ ps t q)
  | n + 1, .rol l, v, p, r, e => by
    simp only [deref, toQ] at e
    obtain ⟨ps, q, rfl⟩ := map_ok e
    cases r with
    | rol nl h t => exact .lst (.inl h) (derefQ_all n (derefQ sr n) l _ ps t q)
    | rolK h t => exact .lst (h H) (derefQ_all n (derefQ sr n) l _ ps t q)
  | n + 1, .dic l, v, p, r, e => by
    cases r with
    | dic nl h t => exact derefQ_dic n (derefQ sr n) h t.pair e
  | n + 1, .hdl k, v, p, r, e => by
    cases q0 : S[k]? with
    | none => simp [deref, q0, toQ] at e
    | some o =>
      cases r with
      | hdl hk =>
        cases o with
        | lst l =>
          simp only [deref, q0, toQ] at e
          obtain ⟨ps, q, rfl⟩ := map_ok e
          obtain ⟨xs, h, t⟩ := sr.obj k _ _ hk q0
          exact .lst (SqL.of h) (derefQ_all n (derefQ sr n) l xs ps t q)
        | dct l =>
          simp only [deref, q0] at e
          obtain ⟨kvs, h, t⟩ := sr.obj k _ _ hk q0
          exact derefQ_dic n (derefQ sr n) (.inl h) t e
        | ins c fs => simp [deref, q0, toQ] at e
        | ext => simp [deref, q0, toQ] at e
  | n + 1, .non, v, p, r, e => toQ_ok r p e
  | n + 1, .bl _, v, p, r, e => toQ_ok r p e
  | n + 1, .int _, v, p, r, e => toQ_ok r p e
  | n + 1, .str _, v, p, r, e => toQ_ok r p e
  | n + 1, .obj _ _, v, p, r, e => toQ_ok r p e
  | n + 1, .glo _, v, p, r, e => toQ_ok r p e
  | n + 1, .ty _, v, p, r, e => toQ_ok r p e
  | n + 1, .ext _ _ _ _, v, p, r, e => toQ_ok r p e
theorem resQ (sr : SR K L io H S) {v : V} {d : Dv} {p : PyData} (r : VX K L io H v d) (e : toQ (res S d) = some p) : Dq K H v p := by
  rcases r with r | ⟨a, o, rfl, rfl, np, ob⟩
  · exact derefQ sr 40 d v p r e
  · cases o with
    | lst l =>
      simp only [vwO, res, deref, toQ] at e
      obtain ⟨ps, q, rfl⟩ := map_ok e
      obtain ⟨xs, h, t⟩ := ob
      exact .lst (SqL.of h) (derefQ_all 39 (derefQ sr 39) l xs ps t q)
    | dct l =>
      obtain ⟨kvs, h, t⟩ := ob
      exact derefQ_dic 39 (derefQ sr 39) (.inl h) t e
    | ins c fs => simp [vwO, res, deref, toQ] at e
    | ext => simp [vwO, res, deref, toQ] at e
end
def reprD (S : Sto) : List Dv → Option (Dv × Sto)
  | [d] => (toQ (res S d)).bind fun p => if p.showable && decide (p.depth ≤ 60) && decide (p.shown.length ≤ sizeLine) then some (.str p.shown, S) else none
  | _ => none
def rRepr (K : PySem.W.Frag) : List V → Hp → VK → Prop := fun xs H Q => ∃ v p, xs = [v] ∧ Dq K H v p ∧ p.showable = true ∧ p.depth ≤ 60 ∧ p.shown.length ≤ sizeLine ∧ Q (.str p.shown) H
theorem cas_repr {K : PySem.W.Frag} : CaS K (rRepr K) reprD := by
  intro L io H S xs l d S' Q sr rv e q
  cases rv with
  | nil => cases e
  | cons r t =>
    cases t with
    | cons r2 t2 => cases e
    | nil =>
      rename_i v dd
      simp only [reprD] at e
      cases h : toQ (res S dd) with
      | none => rw [h] at e; cases e
      | some p =>
        rw [h] at e
        simp only [Option.bind_some] at e
        split at e
        · rename_i hc
          simp only [Bool.and_eq_true, decide_eq_true_eq] at hc
          cases e
          exact ⟨v, p, rfl, resQ sr r h, hc.1.1, hc.1.2, hc.2, q _ H L io (Stp.refl ..) sr (.str _)⟩
        · cases e
theorem call_repr {X : Cx} {k : Nat} (hr : RoomG k X.A) (hs : SysB X.base) : CallR X (.builtin "repr") (rRepr X.K) := by
  intro pins s σ H xs us Q I r h
  obtain ⟨v, p, rfl, hd, h1, h2, h3, q⟩ := h
  obtain ⟨u, rfl, ru⟩ := vals1 r
  cases hd with
  | non => cases ru; exact PySem.P.repr_of_none ⟨.str _, H, I.tok _, ⟨_, rfl⟩, q⟩
  | bl b => cases ru; exact PySem.P.repr_of_bool ⟨.str _, H, I.tok _, ⟨_, rfl⟩, q⟩
  | int i => obtain ⟨t, rfl⟩ := ru; exact PySem.P.repr_of_int (by simpa [PyData.showable] using h1) ⟨.str _, H, I.tok _, ⟨_, rfl⟩, q⟩
  | str x => obtain ⟨t, rfl⟩ := ru; exact PySem.P.repr_of_str ⟨.str _, H, I.tok _, ⟨_, rfl⟩, q⟩ h3
  | lst hl ha =>
    obtain ⟨as, z, nz⟩ := Dq.reads I hs (.lst hl ha) _ ru
    cases ru
    have hu := hr.r.un
    exact repr_of_reads' z h1 (fun _ => nz) hr.g (by omega) (fun _ _ e => e) (fun h' u tk hk => ⟨.str _, H, I.kept hk, ⟨_, rfl⟩, q⟩) h3
  | tup hl ha =>
    obtain ⟨as, z, nz⟩ := Dq.reads I hs (.tup hl ha) _ ru
    cases ru
    have hu := hr.r.un
    exact repr_of_reads' z h1 (fun _ => nz) hr.g (by omega) (fun _ _ e => e) (fun h' u tk hk => ⟨.str _, H, I.kept hk, ⟨_, rfl⟩, q⟩) h3
  | dct hl ha =>
    obtain ⟨as, z, nz⟩ := Dq.reads I hs (.dct hl ha) _ ru
    cases ru
    have hu := hr.r.un
    exact repr_of_reads' z h1 (fun _ => nz) hr.g (by omega) (fun _ _ e => e) (fun h' u tk hk => ⟨.str _, H, I.kept hk, ⟨_, rfl⟩, q⟩) h3
end DL
namespace DL
open PySem L2
def NewO (K : PySem.W.Frag) (H : Hp) (L' : Addr → Prop) (io' : List Addr) (H' : Hp) (v : V) (o : Ob) : Prop := ∃ p, v = .ref p ∧ H p = none ∧ L' p ∧ p ∉ io' ∧ ObR K L' io' H' p o
abbrev DN := Env → Sto → Res Ob
def FinN (K : PySem.W.Frag) (W : WX) (g : St) (L : Addr → Prop) (io : List Addr) (H : Hp) (Q : V → Hp → Prop) : Res Ob → Prop
  | .ok d S' => ∀ (v : V) (H' : Hp) (L' : Addr → Prop) (io' : List Addr), Stp L io H L' io' H' → SR K L' io' H' S' → NewO K H L' io' H' v d → Q v H'
  | .ex c fs S' => ∀ (x : Option Addr) (H' : Hp) (L' : Addr → Prop) (io' : List Addr), Stp L io H L' io' H' → SR K L' io' H' S' → ExR K L' io' H' x fs → W (.ref (He.ga K c)) x g H'
  | .no => False
def rdN (K : PySem.W.Frag) (W : WX) (f : DN) : TE := fun g H Q => ∃ (L0 : Addr → Prop) (io0 : List Addr) (H0 : Hp) (L : Addr → Prop) (io : List Addr) (e : Env) (S : Sto), FR K L0 io0 H0 L io H g e S ∧ FinN K W g L io H Q (f e S)
abbrev QN (X : Cx) (W : WX) (e : Expr) (f : DN) : Prop := PE X e (rdN X.K W f)
def nL (f : DL) : DN := fun e S => bnd (f e S) fun l S' => .ok (.lst l) S'
def nD (f : DD) : DN := fun e S => bnd (f e S) fun l S' => .ok (.dct l) S'
theorem qn_d {X : Cx} {W : WX} {a : Expr} {f : DD} (h : QD X W a f) : QN X W a (nD f) := pe_imp h fun g H Q q => by
  obtain ⟨L0, io0, H0, L, io, e, S, fr, q⟩ := q
  refine ⟨L0, io0, H0, L, io, e, S, fr, ?_⟩
  unfold nD at q
  cases hf : f e S with
  | ok l S' => rw [hf] at q; exact fun v H' L' io' s sr ⟨p, xs, hv, hp, lp, np, h1, h2⟩ => q v H' L' io' s sr ⟨p, hv, hp, lp, np, xs, h1, h2⟩
  | ex c fs S' => rw [hf] at q; exact q
  | no => rw [hf] at q; exact q
/-- frozen at once -/
def eFrzN (f : DN) : DE := fun e S => bnd (f e S) fun o S' => .ok (frzO o) S'
/-- a handle at once -/
def eHdlN (f : DN) : DE := fun e S => bnd (f e S) fun o S' => .ok (.hdl S'.length) (S' ++ [o])
theorem qe_hdlN {X : Cx} {W : WX} {a : Expr} {f : DN} (h : QN X W a f) : QE X W a (eHdlN f) := pe_imp h fun g H Q q => by
  obtain ⟨L0, io0, H0, L, io, e, S, fr, q⟩ := q
  refine ⟨L0, io0, H0, L, io, e, S, fr, ?_⟩
  have q : Fin X.K W (VR X.K) g L io H Q (bnd (f e S) fun o S' => .ok (.hdl S'.length) (S' ++ [o])) := q
  cases hf : f e S with
  | no => rw [hf] at q; exact q
  | ex c fs S' => rw [hf] at q; exact q
  | ok o S' =>
    rw [hf] at q
    rintro v H' L' io' s sr ⟨p, rfl, hp, lp, np, ob⟩
    refine q _ H' L' (io' ++ [p]) ⟨?_, fun x hx => ?_, s.new, s.keep, s.up⟩ (sr.addO lp np ob) (.hdl (by rw [← sr.len]; simp))
    · obtain ⟨m, rfl⟩ := s.pre
      exact ⟨m ++ [p], by simp⟩
    · rcases List.mem_append.mp hx with z | z
      · exact s.hn x z
      · simp at z; subst z; exact .inr hp
def sOwnN (i : Nat) (f : DN) : DS := sBind f fun e o S => .nx (e.set i (.own o)) S
section
variable {X : Cx} {W : WX} {pos : Pos} {a b c : Expr} {x y z : Str}
abbrev DB := Env → Sto → Res (List Sl)
/-- the own ones stand apart -/
inductive SlsR (K : PySem.W.Frag) (L : Addr → Prop) (io : List Addr) (H : Hp) : Hp → List V → List Sl → Prop
  | nil {Hs : Hp} : SlsR K L io H Hs [] []
  | va {Hs : Hp} {v : V} {d : Dv} {vs : List V} {ss : List Sl} : VR K L io H v d → SlsR K L io H Hs vs ss → SlsR K L io H Hs (v :: vs) (.va d :: ss)
  | own {Hs : Hp} {p : Addr} {o : Ob} {H1 : Hp} {vs : List V} {ss : List Sl} : Hs p = none → L p → p ∉ io → ObR K L io H p o → H1 p ≠ none → (∀ q, H1 q = none → Hs q = none) → SlsR K L io H H1 vs ss → SlsR K L io H Hs (.ref p :: vs) (.own o :: ss)
def bNil : DB := fun _ S => .ok [] S
def bVa (f : DE) (fb : DB) : DB := fun e S => bnd (f e S) fun d S1 => bnd (fb e S1) fun l S2 => .ok (.va d :: l) S2
def bOwn (f : DN) (fb : DB) : DB := fun e S => bnd (f e S) fun o S1 => bnd (fb e S1) fun l S2 => .ok (.own o :: l) S2
theorem SlsR.weaken {K : PySem.W.Frag} {Hs Hs' : Hp} {L : Addr → Prop} {io : List Addr} {H : Hp} (hw : ∀ q, Hs q = none → Hs' q = none) : ∀ {vs : List V} {ss : List Sl}, SlsR K L io H Hs vs ss → SlsR K L io H Hs' vs ss
  | _, _, .nil => .nil
  | _, _, .va r t => .va r (t.weaken hw)
  | _, _, .own h1 h2 h3 h4 h5 h6 t => .own (hw _ h1) h2 h3 h4 h5 (fun q z => hw q (h6 q z)) t
/-- the slots are set, from the left -/
def setSs : List Nat → List Sl → Env → Env
  | i :: is, s :: ss, e => setSs is ss (e.set i s)
  | _, _, e => e
def sParB (is : List Nat) (fb : DB) : DS := sBind fb fun e ss S => if ss.length = is.length then .nx (setSs is ss e) S else .no
theorem SlsR.len {K : PySem.W.Frag} {L : Addr → Prop} {io : List Addr} {H : Hp} : ∀ {Hs : Hp} {vs : List V} {ss : List Sl}, SlsR K L io H Hs vs ss → vs.length = ss.length
  | _, _, _, .nil => rfl
  | _, _, _, .va _ t => by rw [List.length_cons, List.length_cons, t.len]
  | _, _, _, .own _ _ _ _ _ _ t => by rw [List.length_cons, List.length_cons, t.len]
def sSetO (i : Nat) (fi fv : DE) : DS := sBind fv fun e v S1 => match e[i]? with
  | some (.own (.lst l)) => sBind fi (fun e n S3 => match n with
    | .int n => match ixN l.length n with
      | some j => .nx (e.set i (.ow (l.set j v))) S3
      | none => .no
    | _ => .no) e S1
  | _ => .no
end
def listK (l : List Dv) (S : Sto) : Res (List Dv) := match l with
  | [d] => match asQ S d with
    | some l => .ok l S
    | none => .no
  | _ => .no
def fList (fa : DA) : DL := fun e S => bnd (fa e S) listK
def eAny (i : Nat) : DE := fun e S => match e[i]? with
  | some (.own o) => .ok (vwO o) S
  | some (.va d) => .ok d S
  | _ => .no
/-- frozen from now on -/
def sFz (i : Nat) : DS := fun e S => match e[i]? with
  | some (.own o) => .nx (e.set i (.va (frzO o))) S
  | some (.va _) => .nx e S
  | _ => .no
end DL
namespace DL
open PySem L2
def prD : Dv → Option (Key × Dv)
  | .tup [k, v] => (keyD k).map fun k' => (k', v)
  | _ => none
def prsD : List Dv → Option (List (Key × Dv))
  | [] => some []
  | d :: l => (prD d).bind fun p => (prsD l).map fun r => p :: r
def dictK (l : List Dv) (S : Sto) : Res (List (Key × Dv)) := match l with
  | [d] => (match asL S d with
    | some m => (match prsD m with
      | some kv => .ok (mergeD [] kv) S
      | none => .no)
    | none => .no)
  | _ => .no
def dDict (fa : DA) : DD := fun e S => bnd (fa e S) dictK
theorem FinD.bind {α β : Type} {K : PySem.W.Frag} {W : WX} {R : (Addr → Prop) → List Addr → Hp → β → α → Prop} {f : Env → Sto → Res α} {k : α → Sto → Res (List (Key × Dv))} {g : St} {L0 L : Addr → Prop} {io0 io : List Addr} {H0 H : Hp} {e : Env} {S : Sto} {Q : V → Hp → Prop} {P : β → Hp → Prop}
    (fr : FR K L0 io0 H0 L io H g e S) (h : FinD K W g L io H Q (bnd (f e S) k))
    (n : ∀ (L1 : Addr → Prop) (io1 : List Addr) (H1 : Hp) (S1 : Sto) (a : α) (v : β), Stp L io H L1 io1 H1 → FR K L0 io0 H0 L1 io1 H1 g e S1 → R L1 io1 H1 v a → FinD K W g L1 io1 H1 Q (k a S1) → P v H1) : Rdg K W R f g H P := by
  refine ⟨L0, io0, H0, L, io, e, S, fr, ?_⟩
  cases hf : f e S with
  | ok a S1 =>
    rw [hf] at h
    intro v H1 L1 io1 s1 sr1 r1
    exact n L1 io1 H1 S1 a v s1 (fr.step s1 sr1) r1 (FinD.later (r := k a S1) h s1 fr.st.sub sr1)
  | ex c fs S1 => rw [hf] at h; exact h
  | no => rw [hf] at h; exact h
end DL
namespace TX
open PySem PySem.Spec PyProof.Rows L2
def keyS (e : Int × Value) : Str := match e.2 with | .str k _ => k | _ => Str.empty
def GoodS (P : Program) (w : World) (e : Int × Value) : Prop := ∃ k tk, e.2 = Value.str k tk ∧ e.1 = (strKind P w).hash k
/-- the set of texts at a: S its members, n their number -/
def TxR (P : Program) (w : World) (h : Heap) (a : Addr) (S : Str → Bool) (n : Nat) : Prop :=
  ∃ o es ep t, h.get? a = some o ∧ o.ExactSet ∧ o.data = .set es ep t ∧ (∀ e ∈ es.toList, GoodS P w e) ∧ (es.toList.map keyS).Nodup ∧ (∀ k, S k = true ↔ k ∈ es.toList.map keyS) ∧
    es.size < scanBound ∧ t.fits es.size = true ∧ es.size = n ∧ Ris t.place.toList ∧ (w.params.followText "set-order" = true ∨ t.led = true)
section
variable {P : Program} {w : World} {h h' : Heap} {a : Addr} {S : Str → Bool} {n : Nat}
theorem TxR.lt (R : TxR P w h a S n) : a < h.objs.size := by
  obtain ⟨o, es, ep, t, ho, r⟩ := R
  exact Heap.lt_size ho
end
end TX
namespace DL
open PySem L2
section
variable {α β : Type} (S S' : Sto) (e : Env) (d d1 d2 d3 : Dv) (l l' : List Dv) (f f1 f2 f3 fo fi fv : DE) (t t1 t2 : DT) (fa : DA) (fl : DL) (s s1 s2 : DS) (h2 : Sto → Dv → Dv → Option (Dv × Sto)) (hc : Sto → List Dv → Option (Dv × Sto)) (g : DF) (i j k : Nat) (b : Bool) (c : Str) (fs : List (Str × Dv)) (x : Option (Dv × Sto))
def kVar (S : Sto) : Option Sl → Res Dv
  | some (.va d) => .ok d S
  | _ => .no
@[simp] theorem ev_var : eVar i e S = kVar S (e[i]?) := rfl
@[simp] theorem kVar_va : kVar S (some (.va d)) = .ok d S := rfl
@[simp] theorem ev_c : eC d e S = .ok d S := rfl
@[simp] theorem ofO_none : (ofO none : Res α) = .no := rfl
@[simp] theorem bnd_no (k : α → Sto → Res β) : bnd .no k = .no := rfl
def kB1 (h : Sto → Dv → Dv → Option (Dv × Sto)) (f2 : DE) (e : Env) (a : Dv) (S : Sto) : Res Dv := bnd (f2 e S) fun b S2 => ofO (h S2 a b)
def kB2 (h : Sto → Dv → Dv → Option (Dv × Sto)) (a b : Dv) (S : Sto) : Res Dv := ofO (h S a b)
@[simp] theorem ev_bin : eBin h2 f1 f2 e S = bnd (f1 e S) (kB1 h2 f2 e) := rfl
@[simp] theorem ev_b1 : kB1 h2 f2 e d S = bnd (f2 e S) (kB2 h2 d) := rfl
@[simp] theorem ev_b2 : kB2 h2 d1 d2 S = ofO (h2 S d1 d2) := rfl
@[simp] theorem ev_tval : tVal f e S = bnd (f e S) blD := rfl
@[simp] theorem blD_bl : blD (.bl b) S = .ok b S := rfl
@[simp] theorem ev_ttru : tTru f e S = bnd (f e S) truR := rfl
def kTru (S : Sto) : Option Bool → Res Bool
  | some b => .ok b S
  | none => .no
@[simp] theorem ev_truR : truR d S = kTru S (truD S d) := by unfold truR; cases truD S d <;> rfl
@[simp] theorem kTru_some : kTru S (some b) = .ok b S := rfl
@[simp] theorem tru_bl : truD S (.bl b) = some b := rfl
@[simp] theorem tru_non : truD S .non = some false := rfl
@[simp] theorem tru_int (n : Int) : truD S (.int n) = some (n != 0) := rfl
@[simp] theorem tru_tup : truD S (.tup l) = some (!l.isEmpty) := rfl
@[simp] theorem tru_lst : truD S (.lst l) = some (!l.isEmpty) := rfl
@[simp] theorem tru_rol : truD S (.rol l) = some (!l.isEmpty) := rfl
def kAnd (t2 : DT) (e : Env) (b : Bool) (S : Sto) : Res Bool := if b then t2 e S else .ok false S
def kOr (t2 : DT) (e : Env) (b : Bool) (S : Sto) : Res Bool := if b then .ok true S else t2 e S
def kNot (b : Bool) (S : Sto) : Res Bool := .ok (!b) S
@[simp] theorem ev_tand : tAnd' t1 t2 e S = bnd (t1 e S) (kAnd t2 e) := rfl
@[simp] theorem ev_tor : tOr' t1 t2 e S = bnd (t1 e S) (kOr t2 e) := rfl
@[simp] theorem ev_tnot : tNot' t1 e S = bnd (t1 e S) kNot := rfl
@[simp] theorem kAnd_t : kAnd t2 e true S = t2 e S := rfl
@[simp] theorem kAnd_f : kAnd t2 e false S = .ok false S := rfl
@[simp] theorem kOr_t : kOr t2 e true S = .ok true S := rfl
@[simp] theorem kOr_f : kOr t2 e false S = t2 e S := rfl
@[simp] theorem kNot_v : kNot b S = .ok (!b) S := rfl
def kIf (f1 f2 : DE) (e : Env) (b : Bool) (S : Sto) : Res Dv := if b then f1 e S else f2 e S
@[simp] theorem ev_if : eIf t f1 f2 e S = bnd (t e S) (kIf f1 f2 e) := rfl
@[simp] theorem kIf_t : kIf f1 f2 e true S = f1 e S := rfl
@[simp] theorem kIf_f : kIf f1 f2 e false S = f2 e S := rfl
def kEAnd (f2 : DE) (e : Env) (a : Dv) (S : Sto) : Res Dv := bnd (truR a S) fun k S2 => if k then f2 e S2 else .ok a S2
def kEOr (f2 : DE) (e : Env) (a : Dv) (S : Sto) : Res Dv := bnd (truR a S) fun k S2 => if k then .ok a S2 else f2 e S2
def kENot (a : Dv) (S : Sto) : Res Dv := bnd (truR a S) fun k S2 => .ok (.bl (!k)) S2
def kEAnd2 (f2 : DE) (e : Env) (a : Dv) (k : Bool) (S : Sto) : Res Dv := if k then f2 e S else .ok a S
def kEOr2 (f2 : DE) (e : Env) (a : Dv) (k : Bool) (S : Sto) : Res Dv := if k then .ok a S else f2 e S
def kENot2 (k : Bool) (S : Sto) : Res Dv := .ok (.bl (!k)) S
@[simp] theorem ev_eand : eAnd f1 f2 e S = bnd (f1 e S) (kEAnd f2 e) := rfl
@[simp] theorem ev_eor : eOr f1 f2 e S = bnd (f1 e S) (kEOr f2 e) := rfl
@[simp] theorem ev_enot : eNot f1 e S = bnd (f1 e S) kENot := rfl
@[simp] theorem ev_keand : kEAnd f2 e d S = bnd (kTru S (truD S d)) (kEAnd2 f2 e d) := by unfold kEAnd; rw [ev_truR]; rfl
@[simp] theorem ev_keor : kEOr f2 e d S = bnd (kTru S (truD S d)) (kEOr2 f2 e d) := by unfold kEOr; rw [ev_truR]; rfl
@[simp] theorem ev_kenot : kENot d S = bnd (kTru S (truD S d)) kENot2 := by unfold kENot; rw [ev_truR]; rfl
@[simp] theorem kEAnd2_t : kEAnd2 f2 e d true S = f2 e S := rfl
@[simp] theorem kEAnd2_f : kEAnd2 f2 e d false S = .ok d S := rfl
@[simp] theorem kEOr2_t : kEOr2 f2 e d true S = .ok d S := rfl
@[simp] theorem kEOr2_f : kEOr2 f2 e d false S = f2 e S := rfl
@[simp] theorem kENot2_v : kENot2 b S = .ok (.bl (!b)) S := rfl
@[simp] theorem ev_anil : aNil e S = .ok [] S := rfl
def kA1 (fa : DA) (e : Env) (d : Dv) (S : Sto) : Res (List Dv) := bnd (fa e S) fun l S2 => .ok (d :: l) S2
def kA2 (d : Dv) (l : List Dv) (S : Sto) : Res (List Dv) := .ok (d :: l) S
@[simp] theorem ev_acons : aCons f fa e S = bnd (f e S) (kA1 fa e) := rfl
@[simp] theorem ev_a1 : kA1 fa e d S = bnd (fa e S) (kA2 d) := rfl
@[simp] theorem ev_a2 : kA2 d l S = .ok (d :: l) S := rfl
@[simp] theorem ev_tup : eTup fa e S = bnd (fa e S) tupR := rfl
@[simp] theorem ev_lst : eLst fa e S = bnd (fa e S) lstR := rfl
theorem line_le (n : Nat) (h : n ≤ 100000) : n ≤ sizeLine := Nat.le_trans h (by decide)
theorem tupR_ok (h : l.length ≤ sizeLine) : tupR l S = .ok (.tup l) S := if_pos h
@[simp] theorem tupR0 : tupR [] S = .ok (.tup []) S := tupR_ok _ _ (line_le _ (by decide))
@[simp] theorem tupR1 (a1 : Dv) : tupR [a1] S = .ok (.tup [a1]) S := tupR_ok _ _ (line_le _ (by simp))
@[simp] theorem tupR2 (a1 a2 : Dv) : tupR [a1, a2] S = .ok (.tup [a1, a2]) S := tupR_ok _ _ (line_le _ (by simp))
@[simp] theorem tupR3 (a1 a2 a3 : Dv) : tupR [a1, a2, a3] S = .ok (.tup [a1, a2, a3]) S := tupR_ok _ _ (line_le _ (by simp))
@[simp] theorem tupR4 (a1 a2 a3 a4 : Dv) : tupR [a1, a2, a3, a4] S = .ok (.tup [a1, a2, a3, a4]) S := tupR_ok _ _ (line_le _ (by simp))
@[simp] theorem tupR5 (a1 a2 a3 a4 a5 : Dv) : tupR [a1, a2, a3, a4, a5] S = .ok (.tup [a1, a2, a3, a4, a5]) S := tupR_ok _ _ (line_le _ (by simp))
@[simp] theorem tupR6 (a1 a2 a3 a4 a5 a6 : Dv) : tupR [a1, a2, a3, a4, a5, a6] S = .ok (.tup [a1, a2, a3, a4, a5, a6]) S := tupR_ok _ _ (line_le _ (by simp))
def kCB (h : Sto → List Dv → Option (Dv × Sto)) (l : List Dv) (S : Sto) : Res Dv := ofO (h S l)
@[simp] theorem ev_cb : eCB hc fa e S = bnd (fa e S) (kCB hc) := rfl
@[simp] theorem ev_kcb : kCB hc l S = ofO (hc S l) := rfl
def kCall (g : DF) (l : List Dv) (S : Sto) : Res Dv := g S l
@[simp] theorem ev_call : eCall g fa e S = bnd (fa e S) (kCall g) := rfl
@[simp] theorem ev_kcall : kCall g l S = g S l := rfl
def kFrz (l : List Dv) (S : Sto) : Res Dv := .ok (.lst l) S
@[simp] theorem ev_frz : eFrz fl e S = bnd (fl e S) kFrz := rfl
@[simp] theorem ev_kfrz : kFrz l S = .ok (.lst l) S := rfl
def kLst (l : List Dv) (S : Sto) : Res (List Dv) := if l.length ≤ sizeLine then .ok l S else .no
@[simp] theorem ev_flst : fLst fa e S = bnd (fa e S) kLst := rfl
theorem kLst_ok (h : l.length ≤ sizeLine) : kLst l S = .ok l S := if_pos h
@[simp] theorem kLst0 : kLst [] S = .ok [] S := kLst_ok _ _ (line_le _ (by decide))
@[simp] theorem kLst1 (a1 : Dv) : kLst [a1] S = .ok [a1] S := kLst_ok _ _ (line_le _ (by simp))
@[simp] theorem kLst2 (a1 a2 : Dv) : kLst [a1, a2] S = .ok [a1, a2] S := kLst_ok _ _ (line_le _ (by simp))
@[simp] theorem kLst3 (a1 a2 a3 : Dv) : kLst [a1, a2, a3] S = .ok [a1, a2, a3] S := kLst_ok _ _ (line_le _ (by simp))
@[simp] theorem kLst4 (a1 a2 a3 a4 : Dv) : kLst [a1, a2, a3, a4] S = .ok [a1, a2, a3, a4] S := kLst_ok _ _ (line_le _ (by simp))
def kNew (l : List Dv) (S : Sto) : Res Dv := .ok (.hdl S.length) (S ++ [.lst l])
@[simp] theorem ev_new : eNew fl e S = bnd (fl e S) kNew := rfl
@[simp] theorem ev_knew : kNew l S = .ok (.hdl S.length) (S ++ [.lst l]) := rfl
@[simp] theorem ev_isq : iSq f e S = bnd (f e S) seqR := rfl
@[simp] theorem seqR_tup : seqR (.tup l) S = .ok l S := rfl
@[simp] theorem seqR_lst : seqR (.lst l) S = .ok l S := rfl
@[simp] theorem seqR_rol : seqR (.rol l) S = .ok l S := rfl
@[simp] theorem ev_rng1 : iRng1' fa e S = bnd (fa e S) rngR1 := rfl
@[simp] theorem ev_rng2 : iRng2' fa e S = bnd (fa e S) rngR2 := rfl
theorem rngR1_ok (n : Int) (h : 0 ≤ n ∧ n < 1000000000) : rngR1 [.int n] S = .ok (rngD 0 n.toNat) S := if_pos ⟨by omega, by omega⟩
/-- comprehensions -/
def kLc (gd : DG) (tt : DT) (te : DE) (vs : List Nat) (e : Env) (ds : List Dv) (S : Sto) : Res (List Dv) := match lcR gd tt te (wipeE e vs) ds S with
  | .ok l S2 => if l.length ≤ sizeLine then .ok l S2 else .no
  | _ => .no
def kLcEnd : Res (List Dv) → Res (List Dv)
  | .ok l S2 => if l.length ≤ sizeLine then .ok l S2 else .no
  | _ => .no
@[simp] theorem ev_fLc (gd : DG) (tt : DT) (te : DE) (vs : List Nat) : fLc fl gd tt te vs e S = bnd (fl e S) (kLc gd tt te vs e) := rfl
@[simp] theorem ev_kLc (gd : DG) (tt : DT) (te : DE) (vs : List Nat) : kLc gd tt te vs e l S = kLcEnd (lcR gd tt te (wipeE e vs) l S) := by unfold kLc kLcEnd; rfl
theorem kLcEnd_ok (h : l.length ≤ sizeLine) : kLcEnd (.ok l S) = .ok l S := if_pos h
@[simp] theorem wipeE_nil : wipeE e [] = e := rfl
@[simp] theorem wipeE_cons (v : Nat) (vs : List Nat) : wipeE e (v :: vs) = (wipeE e vs).set v .no := rfl
@[simp] theorem ev_gN : gN i d e = some (e.set i (.va d)) := rfl
def kGs (gs : DGs) (r : List Dv) : Option Env → Option Env
  | some e => gs r e
  | none => none
@[simp] theorem ev_gT (gs : DGs) : gT gs (.tup l) e = gs l e := rfl
@[simp] theorem ev_gsCons (gd : DG) (gs : DGs) : gsCons gd gs (d :: l) e = kGs gs l (gd d e) := by show (gd d e).bind (fun e' => gs l e') = _; cases gd d e <;> rfl
@[simp] theorem kGs_some (gs : DGs) : kGs gs l (some e) = gs l e := rfl
/-- statements -/
@[simp] theorem ev_snil : sNil e S = .nx e S := rfl
def kSeq (s2 : DS) : Out → Out
  | .nx e S => s2 e S
  | o => o
@[simp] theorem ev_seq : sSeq s1 s2 e S = kSeq s2 (s1 e S) := by unfold sSeq kSeq; cases s1 e S <;> rfl
@[simp] theorem kSeq_nx : kSeq s2 (.nx e S) = s2 e S := rfl
@[simp] theorem kSeq_rt : kSeq s2 (.rt d S) = .rt d S := rfl
@[simp] theorem kSeq_bk : kSeq s2 (.bk e S) = .bk e S := rfl
@[simp] theorem kSeq_ct : kSeq s2 (.ct e S) = .ct e S := rfl
@[simp] theorem kSeq_ex : kSeq s2 (.ex c fs e S) = .ex c fs e S := rfl
def kS {α : Type} (k : Env → α → Sto → Out) (e : Env) : Res α → Out
  | .ok a S => k e a S
  | .ex c fs S => .ex c fs e S
  | .no => .no
theorem ev_sbind (f : Env → Sto → Res α) (k : Env → α → Sto → Out) : sBind f k e S = kS k e (f e S) := by unfold sBind kS; cases f e S <;> rfl
@[simp] theorem kS_ok (k : Env → α → Sto → Out) (a : α) : kS k e (.ok a S) = k e a S := rfl
@[simp] theorem kS_ex (k : Env → α → Sto → Out) : kS k e (.ex c fs S) = .ex c fs e S := rfl
def qRet (e : Env) (d : Dv) (S : Sto) : Out := .rt d S
@[simp] theorem ev_ret : sRet f e S = kS qRet e (f e S) := ev_sbind ..
@[simp] theorem ev_qret : qRet e d S = .rt d S := rfl
def qExpr (e : Env) (d : Dv) (S : Sto) : Out := .nx e S
@[simp] theorem ev_expr : sExpr f e S = kS qExpr e (f e S) := ev_sbind ..
@[simp] theorem ev_qexpr : qExpr e d S = .nx e S := rfl
def qIf (s1 s2 : DS) (e : Env) (b : Bool) (S : Sto) : Out := if b then s1 e S else s2 e S
@[simp] theorem ev_sif : sIf t s1 s2 e S = kS (qIf s1 s2) e (t e S) := ev_sbind ..
@[simp] theorem qIf_t : qIf s1 s2 e true S = s1 e S := rfl
@[simp] theorem qIf_f : qIf s1 s2 e false S = s2 e S := rfl
def qAsg (i : Nat) (e : Env) (d : Dv) (S : Sto) : Out := .nx (e.set i (.va d)) S
@[simp] theorem ev_asg : sAsg i f e S = kS (qAsg i) e (f e S) := ev_sbind ..
@[simp] theorem ev_qasg : qAsg i e d S = .nx (e.set i (.va d)) S := rfl
def kAsgG (S : Sto) : Option Env → Out
  | some e' => .nx e' S
  | none => .no
def qAsgG (gd : DG) (e : Env) (d : Dv) (S : Sto) : Out := kAsgG S (gd d e)
@[simp] theorem ev_asgG (gd : DG) : sAsgG gd f e S = kS (qAsgG gd) e (f e S) := by
  unfold sAsgG; rw [ev_sbind]; congr 1
@[simp] theorem ev_qasgG (gd : DG) : qAsgG gd e d S = kAsgG S (gd d e) := rfl
@[simp] theorem kAsgG_some : kAsgG S (some e) = .nx e S := rfl
def qPar (i j : Nat) (e : Env) (l : List Dv) (S : Sto) : Out := match l with
  | [d1, d2] => .nx ((e.set i (.va d1)).set j (.va d2)) S
  | _ => .no
@[simp] theorem ev_par : sPar i j fa e S = kS (qPar i j) e (fa e S) := ev_sbind ..
@[simp] theorem ev_qpar : qPar i j e [d1, d2] S = .nx ((e.set i (.va d1)).set j (.va d2)) S := rfl
def qPar3 (i j k : Nat) (e : Env) (l : List Dv) (S : Sto) : Out := match l with
  | [d1, d2, d3] => .nx (((e.set i (.va d1)).set j (.va d2)).set k (.va d3)) S
  | _ => .no
@[simp] theorem ev_par3 : sPar3 i j k fa e S = kS (qPar3 i j k) e (fa e S) := ev_sbind ..
@[simp] theorem ev_qpar3 : qPar3 i j k e [d1, d2, d3] S = .nx (((e.set i (.va d1)).set j (.va d2)).set k (.va d3)) S := rfl
def qOwn (i : Nat) (e : Env) (l : List Dv) (S : Sto) : Out := .nx (e.set i (.ow l)) S
@[simp] theorem ev_own : sOwn i fl e S = kS (qOwn i) e (fl e S) := ev_sbind ..
@[simp] theorem ev_qown : qOwn i e l S = .nx (e.set i (.ow l)) S := rfl
def qNew (i : Nat) (e : Env) (l : List Dv) (S : Sto) : Out := .nx (e.set i (.va (.hdl S.length))) (S ++ [.lst l])
@[simp] theorem ev_snew : sNew i fl e S = kS (qNew i) e (fl e S) := ev_sbind ..
@[simp] theorem ev_qnew : qNew i e l S = .nx (e.set i (.va (.hdl S.length))) (S ++ [.lst l]) := rfl
def kFz (i : Nat) (e : Env) (S : Sto) : Option Sl → Out
  | some (.own o) => .nx (e.set i (.va (frzO o))) S
  | _ => .no
@[simp] theorem ev_sfrz : sFrz i e S = kFz i e S (e[i]?) := by unfold sFrz kFz; cases e[i]? with
  | none => rfl
  | some s => cases s <;> rfl
@[simp] theorem kFz_ow : kFz i e S (some (.ow l)) = .nx (e.set i (.va (.lst l))) S := rfl
@[simp] theorem kFz_od (m : List (Key × Dv)) : kFz i e S (some (.od m)) = .nx (e.set i (.va (.dic m))) S := rfl
@[simp] theorem kFz_oi : kFz i e S (some (.oi c fs)) = .nx (e.set i (.va (.obj c fs))) S := rfl
def qFor (gd : DG) (s : DS) (e : Env) (l : List Dv) (S : Sto) : Out := forR gd s l e S
@[simp] theorem ev_for (gd : DG) : sFor fl gd s e S = kS (qFor gd s) e (fl e S) := ev_sbind ..
@[simp] theorem ev_qfor (gd : DG) : qFor gd s e l S = forR gd s l e S := rfl
def qOwnM (h : List Dv → List Dv → Option (List Dv × Dv)) (i : Nat) (l : List Dv) (e : Env) (as : List Dv) (S : Sto) : Out := match h l as with
  | some (l', _) => .nx (e.set i (.ow l')) S
  | none => .no
def kOwnM (h : List Dv → List Dv → Option (List Dv × Dv)) (i : Nat) (fa : DA) (e : Env) (S : Sto) : Option Sl → Out
  | some (.own (.lst l)) => kS (qOwnM h i l) e (fa e S)
  | _ => .no
@[simp] theorem ev_ownM (h : List Dv → List Dv → Option (List Dv × Dv)) : sOwnM h i fa e S = kOwnM h i fa e S (e[i]?) := by
  unfold sOwnM kOwnM
  rcases e[i]? with _ | (_ | _ | (l | _ | _ | _)) <;> first | rfl | exact ev_sbind ..
@[simp] theorem kOwnM_ow (h : List Dv → List Dv → Option (List Dv × Dv)) : kOwnM h i fa e S (some (.ow l)) = kS (qOwnM h i l) e (fa e S) := rfl
@[simp] theorem qOwnM_app (h : l.length < sizeLine) : qOwnM appD i l e [d] S = .nx (e.set i (.ow (l ++ [d]))) S := by unfold qOwnM appD; simp only [if_pos h]
/-- handles' lists -/
def kSet (e : Env) : Option Sto → Out
  | some S => .nx e S
  | none => .no
def qSet1 (fo fi : DE) (e : Env) (v : Dv) (S : Sto) : Out := sBind fo (fun e o S2 => sBind fi (fun e i S3 => match setD S3 o i v with
  | some S4 => .nx e S4
  | none => .no) e S2) e S
def qSet2 (fi : DE) (v : Dv) (e : Env) (o : Dv) (S : Sto) : Out := sBind fi (fun e i S3 => match setD S3 o i v with
  | some S4 => .nx e S4
  | none => .no) e S
def qSet3 (v o : Dv) (e : Env) (i : Dv) (S : Sto) : Out := kSet e (setD S o i v)
@[simp] theorem ev_setI : sSetI fo fi fv e S = kS (qSet1 fo fi) e (fv e S) := ev_sbind ..
@[simp] theorem ev_qset1 : qSet1 fo fi e d S = kS (qSet2 fi d) e (fo e S) := ev_sbind ..
@[simp] theorem ev_qset2 : qSet2 fi d e d1 S = kS (qSet3 d d1) e (fi e S) := by
  unfold qSet2; rw [ev_sbind]; congr 1
@[simp] theorem ev_qset3 : qSet3 d d1 e d2 S = kSet e (setD S d1 d2 d) := rfl
@[simp] theorem kSet_some : kSet e (some S) = .nx e S := rfl
def kSetH (S : Sto) (k : Nat) (n : Int) (v : Dv) : Option Ob → Option Sto
  | some (.lst l) => match ixN l.length n with
    | some j => some (S.set k (.lst (l.set j v)))
    | none => none
  | _ => none
@[simp] theorem ev_setD (n : Int) : setD S (.hdl k) (.int n) d = kSetH S k n d (S[k]?) := by
  simp only [setD]; unfold kSetH; generalize S[k]? = z; cases z with
  | none => rfl
  | some o => cases o <;> rfl
def kSetJ (S : Sto) (k : Nat) (l : List Dv) (v : Dv) : Option Nat → Option Sto
  | some j => some (S.set k (.lst (l.set j v)))
  | none => none
@[simp] theorem kSetH_lst (n : Int) : kSetH S k n d (some (.lst l)) = kSetJ S k l d (ixN l.length n) := by simp only [kSetH]; generalize ixN l.length n = z; cases z <;> rfl
@[simp] theorem kSetJ_some : kSetJ S k l d (some j) = some (S.set k (.lst (l.set j d))) := rfl
def qAug1 (op : Dv → Dv → Option Dv) (fi fv : DE) (e : Env) (o : Dv) (S : Sto) : Out := sBind fi (fun e i S2 => match ixL S2 o i with
  | some x => sBind fv (fun e y S3 => match op x y with
    | some z => (match setD S3 o i z with
      | some S4 => .nx e S4
      | none => .no)
    | none => .no) e S2
  | none => .no) e S
def kAug2 (op : Dv → Dv → Option Dv) (fv : DE) (o i : Dv) (e : Env) (S : Sto) : Option Dv → Out
  | some x => sBind fv (fun e y S3 => match op x y with
    | some z => (match setD S3 o i z with
      | some S4 => .nx e S4
      | none => .no)
    | none => .no) e S
  | none => .no
def qAug2 (op : Dv → Dv → Option Dv) (fv : DE) (o : Dv) (e : Env) (i : Dv) (S : Sto) : Out := kAug2 op fv o i e S (ixL S o i)
def kAug4 (o i : Dv) (e : Env) (S : Sto) : Option Dv → Out
  | some z => kSet e (setD S o i z)
  | none => .no
def qAug3 (op : Dv → Dv → Option Dv) (o i x : Dv) (e : Env) (y : Dv) (S : Sto) : Out := kAug4 o i e S (op x y)
@[simp] theorem ev_augI (op : Dv → Dv → Option Dv) : sAugI op fo fi fv e S = kS (qAug1 op fi fv) e (fo e S) := ev_sbind ..
@[simp] theorem ev_qaug1 (op : Dv → Dv → Option Dv) : qAug1 op fi fv e d S = kS (qAug2 op fv d) e (fi e S) := by
  unfold qAug1; rw [ev_sbind]; congr 1
@[simp] theorem ev_qaug2 (op : Dv → Dv → Option Dv) : qAug2 op fv d e d1 S = kAug2 op fv d d1 e S (ixL S d d1) := rfl
@[simp] theorem ev_kaug2 (op : Dv → Dv → Option Dv) : kAug2 op fv d d1 e S (some d2) = kS (qAug3 op d d1 d2) e (fv e S) := by
  unfold kAug2
  simp only
  rw [ev_sbind]; congr 1
@[simp] theorem ev_qaug3 (op : Dv → Dv → Option Dv) : qAug3 op d d1 d2 e d3 S = kAug4 d d1 e S (op d2 d3) := rfl
@[simp] theorem kAug4_some : kAug4 d d1 e S (some d2) = kSet e (setD S d d1 d2) := rfl
def kIxL (i : Int) : Option Ob → Option Dv
  | some (.lst l) => atI l i
  | _ => none
@[simp] theorem ixL_hdl (n : Int) : ixL S (.hdl k) (.int n) = kIxL n (S[k]?) := by
  simp only [ixL, asL]; unfold kIxL; generalize S[k]? = z; cases z with
  | none => rfl
  | some o => cases o <;> rfl
@[simp] theorem kIxL_lst (n : Int) : kIxL n (some (.lst l)) = atI l n := rfl
def qAug (op : Dv → Dv → Option Dv) (n : Nat) (x : Dv) (e : Env) (y : Dv) (S : Sto) : Out := match op x y with
  | some z => .nx (e.set n (.va z)) S
  | none => .no
def kAug (op : Dv → Dv → Option Dv) (n : Nat) (fv : DE) (e : Env) (S : Sto) : Option Sl → Out
  | some (.va x) => kS (qAug op n x) e (fv e S)
  | _ => .no
@[simp] theorem ev_aug (op : Dv → Dv → Option Dv) (n : Nat) : sAug op n fv e S = kAug op n fv e S (e[n]?) := by
  unfold sAug kAug
  cases e[n]? with
  | none => rfl
  | some s => cases s <;> first | rfl | exact ev_sbind ..
@[simp] theorem kAug_va (op : Dv → Dv → Option Dv) (n : Nat) : kAug op n fv e S (some (.va d)) = kS (qAug op n d) e (fv e S) := rfl
@[simp] theorem qAug_add (n : Nat) (p q : Int) : qAug addI n (.int p) e (.int q) S = .nx (e.set n (.va (.int (p + q)))) S := rfl
@[simp] theorem qAug_sub (n : Nat) (p q : Int) : qAug subI n (.int p) e (.int q) S = .nx (e.set n (.va (.int (p - q)))) S := rfl
@[simp] theorem addI_int (p q : Int) : addI (.int p) (.int q) = some (.int (p + q)) := rfl
@[simp] theorem subI_int (p q : Int) : subI (.int p) (.int q) = some (.int (p - q)) := rfl
/-- operators by data -/
@[simp] theorem op_sub_i (p q : Int) : pu2 subD S (.int p) (.int q) = some (.int (p - q), S) := rfl
theorem op_mul_i (p q : Int) (h : (-(2 ^ 64) < p ∧ p < 2 ^ 64) ∨ (-(2 ^ 64) < q ∧ q < 2 ^ 64)) : pu2 mulD S (.int p) (.int q) = some (.int (p * q), S) := by
  show (if _ then some (Dv.int (p * q)) else none).map _ = _
  rw [if_pos h]; rfl
theorem op_mod_i (p q : Int) (h : 0 < q) : pu2 modD S (.int p) (.int q) = some (.int (p % q), S) := by
  show (if _ then some (Dv.int (p % q)) else none).map _ = _
  rw [if_pos h]; rfl
theorem op_fdiv_i (p q : Int) (h : 0 < q ∧ q < 1073741824) : pu2 fdivD S (.int p) (.int q) = some (.int (p / q), S) := by
  show (if _ then some (Dv.int (p / q)) else none).map _ = _
  rw [if_pos h]; rfl
@[simp] theorem op_lt_i (p q : Int) : pu2 ltD S (.int p) (.int q) = some (.bl (decide (p < q)), S) := rfl
@[simp] theorem op_le_i (p q : Int) : pu2 leD S (.int p) (.int q) = some (.bl (decide (p ≤ q)), S) := rfl
@[simp] theorem op_gt_i (p q : Int) : pu2 gtD S (.int p) (.int q) = some (.bl (decide (q < p)), S) := rfl
@[simp] theorem op_ge_i (p q : Int) : pu2 geD S (.int p) (.int q) = some (.bl (decide (q ≤ p)), S) := rfl
@[simp] theorem op_add_i (p q : Int) : addD S (.int p) (.int q) = some (.int (p + q), S) := rfl
def kEq (S : Sto) : Option Bool → Option (Dv × Sto)
  | some b => some (.bl b, S)
  | none => none
def kNe (S : Sto) : Option Bool → Option (Dv × Sto)
  | some b => some (.bl (!b), S)
  | none => none
@[simp] theorem ev_eqE : eqE S d1 d2 = kEq S (eqD S d1 d2) := by unfold eqE kEq; cases eqD S d1 d2 <;> rfl
@[simp] theorem ev_neE : neE S d1 d2 = kNe S (eqD S d1 d2) := by unfold neE kNe; cases eqD S d1 d2 <;> rfl
@[simp] theorem kEq_some : kEq S (some b) = some (.bl b, S) := rfl
@[simp] theorem kNe_some : kNe S (some b) = some (.bl (!b), S) := rfl
@[simp] theorem eq_ss (p q : Str) : eqD S (.str p) (.str q) = some (decide (p = q)) := rfl
@[simp] theorem eq_ii (p q : Int) : eqD S (.int p) (.int q) = some (decide (p = q)) := rfl
@[simp] theorem eq_bb (p q : Bool) : eqD S (.bl p) (.bl q) = some (decide (p = q)) := rfl
@[simp] theorem eq_nn : eqD S .non .non = some true := rfl
@[simp] theorem eq_ni (p : Int) : eqD S .non (.int p) = some false := rfl
@[simp] theorem eq_in (p : Int) : eqD S (.int p) .non = some false := rfl
@[simp] theorem eq_ns (p : Str) : eqD S .non (.str p) = some false := rfl
@[simp] theorem eq_sn (p : Str) : eqD S (.str p) .non = some false := rfl
@[simp] theorem eq_si (p : Str) (q : Int) : eqD S (.str p) (.int q) = some false := rfl
@[simp] theorem eq_is (p : Str) (q : Int) : eqD S (.int q) (.str p) = some false := rfl
@[simp] theorem is_non : pu2 (isD false) S d .non = some (.bl (match d with | .non => true | _ => false), S) := by cases d <;> rfl
@[simp] theorem isnot_non : pu2 (isD true) S d .non = some (.bl (match d with | .non => false | _ => true), S) := by cases d <;> rfl
@[simp] theorem is_bb (p q : Bool) : pu2 (isD false) S (.bl p) (.bl q) = some (.bl (decide (p = q)), S) := rfl
@[simp] theorem len_tup : lenD S [.tup l] = some (.int l.length, S) := rfl
@[simp] theorem len_lst : lenD S [.lst l] = some (.int l.length, S) := rfl
@[simp] theorem len_rol : lenD S [.rol l] = some (.int l.length, S) := rfl
@[simp] theorem abs_int (p : Int) : absD S [.int p] = some (.int (if p < 0 then -p else p), S) := rfl
@[simp] theorem list_tup : listD S [.tup l] = some (.lst l, S) := rfl
@[simp] theorem list_lst : listD S [.lst l] = some (.lst l, S) := rfl
@[simp] theorem tuple_tup : tupleD S [.tup l] = some (.tup l, S) := rfl
@[simp] theorem tuple_lst : tupleD S [.lst l] = some (.tup l, S) := rfl
def kIx (S : Sto) : Option Dv → Option (Dv × Sto)
  | some d => some (d, S)
  | none => none
@[simp] theorem kIx_some : kIx S (some d) = some (d, S) := rfl
@[simp] theorem ix_tup (n : Int) : ixD S (.tup l) (.int n) = kIx S (atI l n) := by show (atI l n).map _ = _; cases atI l n <;> rfl
@[simp] theorem ix_lst (n : Int) : ixD S (.lst l) (.int n) = kIx S (atI l n) := by show (atI l n).map _ = _; cases atI l n <;> rfl
@[simp] theorem ix_rol (n : Int) : ixD S (.rol l) (.int n) = kIx S (atI l n) := by show (atI l n).map _ = _; cases atI l n <;> rfl
@[simp] theorem ix_hdl (n : Int) : ixD S (.hdl k) (.int n) = kIx S (kIxL n (S[k]?)) := by
  simp only [ixD, asQ, asT, asL]; unfold kIxL; generalize S[k]? = z
  cases z with
  | none => rfl
  | some o => cases o with
    | lst l => simp only [Option.bind_some]; generalize atI l n = q; cases q <;> rfl
    | _ => rfl
@[simp] theorem atI_cons0 {γ : Type} (a : γ) (r : List γ) : atI (a :: r) 0 = some a := by unfold atI ixN; simp
theorem atI_nat' {γ : Type} (r : List γ) (m : Nat) : atI r (m : Int) = r[m]? := by
  unfold atI ixN
  rw [if_pos (by omega)]
  by_cases h : (m : Int) < r.length
  · rw [if_pos h]; simp
  · rw [if_neg h]; simp; omega
@[simp] theorem atI_lit1 {γ : Type} (r : List γ) : atI r 1 = r[1]? := atI_nat' r 1
@[simp] theorem atI_lit2 {γ : Type} (r : List γ) : atI r 2 = r[2]? := atI_nat' r 2
@[simp] theorem atI_lit3 {γ : Type} (r : List γ) : atI r 3 = r[3]? := atI_nat' r 3
@[simp] theorem atI_lit4 {γ : Type} (r : List γ) : atI r 4 = r[4]? := atI_nat' r 4
@[simp] theorem ixN_lit0 (m : Nat) : ixN (m + 1) 0 = some 0 := by unfold ixN; simp
theorem ixN_ok {m : Nat} {n : Int} (h0 : 0 ≤ n) (h1 : n < m) : ixN m n = some n.toNat := by unfold ixN; rw [if_pos h0, if_pos h1]
@[simp] theorem rngD_len (lo : Int) (n : Nat) : (rngD lo n).length = n := by unfold rngD; simp
@[simp] theorem ev_neg : eNeg f e S = bnd (f e S) negD := rfl
@[simp] theorem negD_int (p : Int) : negD (.int p) S = .ok (.int (-p)) S := rfl
/-- a def is run -/
def kRun : Out → Res Dv
  | .rt d S' => .ok d S'
  | .nx _ S' => .ok .non S'
  | .ex c fs _ S' => .ex c fs S'
  | _ => .no
theorem ev_run (np n : Nat) (h : l.length = np) : runF np n s S l = kRun (s (startE n l) S) := by
  unfold runF kRun
  rw [if_pos h]
  try (cases s (startE n l) S <;> rfl)
@[simp] theorem kRun_rt : kRun (.rt d S) = .ok d S := rfl
@[simp] theorem kRun_nx : kRun (.nx e S) = .ok .non S := rfl
@[simp] theorem kRun_ex : kRun (.ex c fs e S) = .ex c fs S := rfl
@[simp] theorem bnd_ex (k : α → Sto → Res β) : bnd (.ex c fs S) k = .ex c fs S := rfl
/-- cuts, parts -/
@[simp] theorem ev_onone : oNone e S = .ok none S := rfl
@[simp] theorem ev_osome : oSome f e S = bnd (f e S) oInt := rfl
@[simp] theorem oInt_int (p : Int) : oInt (.int p) S = .ok (some p) S := rfl
def kCut1 (lo hi : DO) (e : Env) (d : Dv) (S : Sto) : Res Dv := bnd (lo e S) fun l S2 => bnd (hi e S2) fun h S3 => ofO (cutD S3 d l h)
def kCut2 (hi : DO) (e : Env) (d : Dv) (l : Option Int) (S : Sto) : Res Dv := bnd (hi e S) fun h S3 => ofO (cutD S3 d l h)
def kCut3 (d : Dv) (l h : Option Int) (S : Sto) : Res Dv := ofO (cutD S d l h)
@[simp] theorem ev_cut (lo hi : DO) : eCut f lo hi e S = bnd (f e S) (kCut1 lo hi e) := rfl
@[simp] theorem ev_cut1 (lo hi : DO) : kCut1 lo hi e d S = bnd (lo e S) (kCut2 hi e d) := rfl
@[simp] theorem ev_cut2 (hi : DO) (z : Option Int) : kCut2 hi e d z S = bnd (hi e S) (kCut3 d z) := rfl
@[simp] theorem ev_cut3 (y z : Option Int) : kCut3 d y z S = ofO (cutD S d y z) := rfl
@[simp] theorem cut_tup (y z : Option Int) : cutD S (.tup l) y z = some (.tup (cutG l y z), S) := rfl
@[simp] theorem cut_lst (y z : Option Int) : cutD S (.lst l) y z = some (.lst (cutG l y z), S) := rfl
@[simp] theorem cut_rol (y z : Option Int) : cutD S (.rol l) y z = some (.lst (cutG l y z), S) := rfl
/-- texts walked, dicts, texts' methods -/
@[simp] theorem seqR_str (z : Str) : seqR (.str z) S = .ok (strL z) S := rfl
def kFzD (m : List (Key × Dv)) (S : Sto) : Res Dv := .ok (.dic m) S
@[simp] theorem ev_frzD (fd : DD) : eFrzD fd e S = bnd (fd e S) kFzD := rfl
@[simp] theorem ev_kfzD (m : List (Key × Dv)) : kFzD m S = .ok (.dic m) S := rfl
@[simp] theorem ev_dnil : dNil e S = .ok [] S := rfl
@[simp] theorem ev_pnil : pNil e S = .ok [] S := rfl
def kP1 (fv : DE) (fp : DP) (e : Env) (k : Dv) (S : Sto) : Res (List (Dv × Dv)) := bnd (fv e S) fun v S2 => bnd (fp e S2) fun l S3 => .ok ((k, v) :: l) S3
def kP2 (fp : DP) (e : Env) (k v : Dv) (S : Sto) : Res (List (Dv × Dv)) := bnd (fp e S) fun l S3 => .ok ((k, v) :: l) S3
def kP3 (k v : Dv) (m : List (Dv × Dv)) (S : Sto) : Res (List (Dv × Dv)) := .ok ((k, v) :: m) S
@[simp] theorem ev_pcons (fp : DP) : pCons f1 f2 fp e S = bnd (f1 e S) (kP1 f2 fp e) := rfl
@[simp] theorem ev_p1 (fp : DP) : kP1 f2 fp e d S = bnd (f2 e S) (kP2 fp e d) := rfl
@[simp] theorem ev_p2 (fp : DP) : kP2 fp e d1 d2 S = bnd (fp e S) (kP3 d1 d2) := rfl
@[simp] theorem ev_p3 (m : List (Dv × Dv)) : kP3 d1 d2 m S = .ok ((d1, d2) :: m) S := rfl
@[simp] theorem ev_disp (fp : DP) : dDisp fp e S = bnd (fp e S) kDisp := rfl
def kStr2 (h : Sto → Str → List Dv → Option (Dv × Sto)) (z : Str) (l : List Dv) (S : Sto) : Res Dv := ofO (h S z l)
@[simp] theorem ev_strM (h : Sto → Str → List Dv → Option (Dv × Sto)) : eStrM h f fa e S = bnd (f e S) (kStrM h fa e) := rfl
@[simp] theorem ev_kstrM (h : Sto → Str → List Dv → Option (Dv × Sto)) (z : Str) : kStrM h fa e (.str z) S = bnd (fa e S) (kStr2 h z) := rfl
@[simp] theorem ev_kstr2 (h : Sto → Str → List Dv → Option (Dv × Sto)) (z : Str) : kStr2 h z l S = ofO (h S z l) := rfl
def kLenO (S : Sto) : Option Sl → Res Dv
  | some (.own (.lst l)) => .ok (.int l.length) S
  | _ => .no
@[simp] theorem ev_lenO : eLenO i e S = kLenO S (e[i]?) := by unfold eLenO kLenO; rcases e[i]? with _ | (_ | _ | (l | _ | _ | _)) <;> rfl
@[simp] theorem kLenO_ow : kLenO S (some (.ow l)) = .ok (.int l.length) S := rfl
def kHd (i : Nat) (e : Env) (S : Sto) : Option Sl → Out
  | some (.own o) => .nx (e.set i (.va (.hdl S.length))) (S ++ [o])
  | _ => .no
@[simp] theorem ev_shdl : sHdl i e S = kHd i e S (e[i]?) := by unfold sHdl kHd; cases e[i]? with
  | none => rfl
  | some s => cases s <;> rfl
@[simp] theorem kHd_ow (o : Ob) : kHd i e S (some (.own o)) = .nx (e.set i (.va (.hdl S.length))) (S ++ [o]) := rfl
def kHM1 (h : List Dv → List Dv → Option (List Dv × Dv)) (fa : DA) (e : Env) (o : Dv) (S : Sto) : Res Dv := if lstHd S o then bnd (fa e S) fun as S2 => hdlM h S2 o as else .no
def kHM2 (h : List Dv → List Dv → Option (List Dv × Dv)) (o : Dv) (as : List Dv) (S : Sto) : Res Dv := hdlM h S o as
def kHM3 (h : List Dv → List Dv → Option (List Dv × Dv)) (fa : DA) (e : Env) (o : Dv) (S : Sto) (b : Bool) : Res Dv := if b then bnd (fa e S) (kHM2 h o) else .no
@[simp] theorem ev_hdlM (h : List Dv → List Dv → Option (List Dv × Dv)) : eHdlM h f fa e S = bnd (f e S) (kHM1 h fa e) := rfl
@[simp] theorem ev_khm1 (h : List Dv → List Dv → Option (List Dv × Dv)) : kHM1 h fa e d S = kHM3 h fa e d S (lstHd S d) := rfl
@[simp] theorem ev_khm3 (h : List Dv → List Dv → Option (List Dv × Dv)) : kHM3 h fa e d S true = bnd (fa e S) (kHM2 h d) := rfl
@[simp] theorem ev_khm2 (h : List Dv → List Dv → Option (List Dv × Dv)) : kHM2 h d l S = hdlM h S d l := rfl
def kLh : Option Ob → Bool
  | some (.lst _) => true
  | _ => false
@[simp] theorem lstHd_hdl : lstHd S (.hdl k) = kLh (S[k]?) := by simp only [lstHd]; unfold kLh; generalize S[k]? = z; cases z with
  | none => rfl
  | some o => cases o <;> rfl
@[simp] theorem kLh_lst : kLh (some (.lst l)) = true := rfl
theorem hdlM_app (h1 : S[k]? = some (.lst l)) (h2 : l.length < sizeLine) : hdlM appD S (.hdl k) [d] = .ok .non (S.set k (.lst (l ++ [d]))) := by simp only [hdlM, h1, appD, if_pos h2]
end
section
variable {α β : Type} (S S' : Sto) (e : Env) (d d1 d2 d3 : Dv) (l l' : List Dv) (f f1 f2 f3 fo fi fv : DE) (t t1 t2 : DT) (fa : DA) (fl : DL) (fn : DN) (fdd : DD) (fb : DB) (s s1 s2 : DS) (o : Ob) (ss : List Sl) (i j k : Nat) (b : Bool) (c : Str) (fs : List (Str × Dv)) (m : List (Key × Dv))
/-- what may be own -/
def kAny (S : Sto) : Option Sl → Res Dv
  | some (.own o) => .ok (vwO o) S
  | some (.va d) => .ok d S
  | _ => .no
@[simp] theorem ev_any : eAny i e S = kAny S (e[i]?) := by unfold eAny kAny; rfl
@[simp] theorem kAny_va : kAny S (some (.va d)) = .ok d S := rfl
@[simp] theorem kAny_ow : kAny S (some (.ow l)) = .ok (.lst l) S := rfl
@[simp] theorem kAny_od : kAny S (some (.od m)) = .ok (.dic m) S := rfl
def kFy (i : Nat) (e : Env) (S : Sto) : Option Sl → Out
  | some (.own o) => .nx (e.set i (.va (frzO o))) S
  | some (.va _) => .nx e S
  | _ => .no
@[simp] theorem ev_sfz : sFz i e S = kFy i e S (e[i]?) := by unfold sFz kFy; rfl
@[simp] theorem kFy_va : kFy i e S (some (.va d)) = .nx e S := rfl
@[simp] theorem kFy_ow : kFy i e S (some (.ow l)) = .nx (e.set i (.va (.lst l))) S := rfl
@[simp] theorem kFy_od : kFy i e S (some (.od m)) = .nx (e.set i (.va (.dic m))) S := rfl
/-- new things -/
def kNL (l : List Dv) (S : Sto) : Res Ob := .ok (.lst l) S
@[simp] theorem ev_nL : nL fl e S = bnd (fl e S) kNL := rfl
@[simp] theorem ev_kNL : kNL l S = .ok (.lst l) S := rfl
def kND (l : List (Key × Dv)) (S : Sto) : Res Ob := .ok (.dct l) S
@[simp] theorem ev_nD : nD fdd e S = bnd (fdd e S) kND := rfl
@[simp] theorem ev_kND : kND m S = .ok (.dct m) S := rfl
def kFN (o : Ob) (S : Sto) : Res Dv := .ok (frzO o) S
@[simp] theorem ev_frzN : eFrzN fn e S = bnd (fn e S) kFN := rfl
@[simp] theorem ev_kFN : kFN o S = .ok (frzO o) S := rfl
@[simp] theorem frzO_l : frzO (.lst l) = .lst l := rfl
@[simp] theorem frzO_d : frzO (.dct m) = .dic m := rfl
@[simp] theorem frzO_i : frzO (.ins c fs) = .obj c fs := rfl
def kHN (o : Ob) (S : Sto) : Res Dv := .ok (.hdl S.length) (S ++ [o])
@[simp] theorem ev_hdlN : eHdlN fn e S = bnd (fn e S) kHN := rfl
@[simp] theorem ev_kHN : kHN o S = .ok (.hdl S.length) (S ++ [o]) := rfl
def qOwnN (i : Nat) (e : Env) (o : Ob) (S : Sto) : Out := .nx (e.set i (.own o)) S
@[simp] theorem ev_ownN : sOwnN i fn e S = kS (qOwnN i) e (fn e S) := ev_sbind ..
@[simp] theorem ev_qownN : qOwnN i e o S = .nx (e.set i (.own o)) S := rfl
@[simp] theorem ev_bnil : bNil e S = .ok [] S := rfl
def kB1' (fb : DB) (e : Env) (d : Dv) (S : Sto) : Res (List Sl) := bnd (fb e S) fun l S2 => .ok (.va d :: l) S2
def kB2' (d : Dv) (l : List Sl) (S : Sto) : Res (List Sl) := .ok (.va d :: l) S
def kB3' (fb : DB) (e : Env) (o : Ob) (S : Sto) : Res (List Sl) := bnd (fb e S) fun l S2 => .ok (.own o :: l) S2
def kB4' (o : Ob) (l : List Sl) (S : Sto) : Res (List Sl) := .ok (.own o :: l) S
@[simp] theorem ev_bva : bVa f fb e S = bnd (f e S) (kB1' fb e) := rfl
@[simp] theorem ev_bown : bOwn fn fb e S = bnd (fn e S) (kB3' fb e) := rfl
@[simp] theorem ev_b1' : kB1' fb e d S = bnd (fb e S) (kB2' d) := rfl
@[simp] theorem ev_b2' : kB2' d ss S = .ok (.va d :: ss) S := rfl
@[simp] theorem ev_b3' : kB3' fb e o S = bnd (fb e S) (kB4' o) := rfl
@[simp] theorem ev_b4' : kB4' o ss S = .ok (.own o :: ss) S := rfl
def qParB (is : List Nat) (e : Env) (ss : List Sl) (S : Sto) : Out := if ss.length = is.length then .nx (setSs is ss e) S else .no
@[simp] theorem ev_parB (is : List Nat) : sParB is fb e S = kS (qParB is) e (fb e S) := ev_sbind ..
@[simp] theorem ev_qparB2 (s1 s2 : Sl) : qParB [i, j] e [s1, s2] S = .nx ((e.set i s1).set j s2) S := rfl
@[simp] theorem ev_qparB3 (s1 s2 s3 : Sl) : qParB [i, j, k] e [s1, s2, s3] S = .nx (((e.set i s1).set j s2).set k s3) S := rfl
def qSO3 (i : Nat) (l : List Dv) (v : Dv) (e : Env) (S : Sto) : Option Nat → Out
  | some j => .nx (e.set i (.ow (l.set j v))) S
  | none => .no
def qSO2 (i : Nat) (l : List Dv) (v : Dv) (e : Env) (n : Dv) (S : Sto) : Out := match n with
  | .int n => qSO3 i l v e S (ixN l.length n)
  | _ => .no
def qSO1 (i : Nat) (fi : DE) (v : Dv) (e : Env) (S : Sto) : Option Sl → Out
  | some (.own (.lst l)) => kS (qSO2 i l v) e (fi e S)
  | _ => .no
def qSO (i : Nat) (fi : DE) (e : Env) (v : Dv) (S : Sto) : Out := qSO1 i fi v e S (e[i]?)
@[simp] theorem ev_setO : sSetO i fi fv e S = kS (qSO i fi) e (fv e S) := by
  unfold sSetO
  rw [ev_sbind]
  congr 1
@[simp] theorem ev_qSO : qSO i fi e d S = qSO1 i fi d e S (e[i]?) := rfl
@[simp] theorem ev_qSO1 : qSO1 i fi d e S (some (.ow l)) = kS (qSO2 i l d) e (fi e S) := rfl
@[simp] theorem ev_qSO2 (n : Int) : qSO2 i l d e (.int n) S = qSO3 i l d e S (ixN l.length n) := rfl
@[simp] theorem ev_qSO3 : qSO3 i l d e S (some j) = .nx (e.set i (.ow (l.set j d))) S := rfl
@[simp] theorem ev_fList : fList fa e S = bnd (fa e S) listK := rfl
@[simp] theorem listK_tup : listK [.tup l] S = .ok l S := rfl
@[simp] theorem listK_lst : listK [.lst l] S = .ok l S := rfl
@[simp] theorem listK_rol : listK [.rol l] S = .ok l S := rfl
/-- chains, ranges asked -/
def kC1 (h h' : Sto → Dv → Dv → Option (Dv × Sto)) (f2 f3 : DE) (e : Env) (a : Dv) (S : Sto) : Res Dv := bnd (f2 e S) fun b S2 => bnd (ofO (h S2 a b)) fun z S3 => match z with
  | .bl true => bnd (f3 e S3) fun c S4 => ofO (h' S4 b c)
  | .bl false => .ok (.bl false) S3
  | _ => .no
def kC3 (h' : Sto → Dv → Dv → Option (Dv × Sto)) (f3 : DE) (e : Env) (b : Dv) (z : Dv) (S : Sto) : Res Dv := match z with
  | .bl true => bnd (f3 e S) (kB2 h' b)
  | .bl false => .ok (.bl false) S
  | _ => .no
def kC2 (h h' : Sto → Dv → Dv → Option (Dv × Sto)) (f3 : DE) (e : Env) (a b : Dv) (S : Sto) : Res Dv := bnd (ofO (h S a b)) (kC3 h' f3 e b)
@[simp] theorem ev_chn (h h' : Sto → Dv → Dv → Option (Dv × Sto)) : eChn h h' f1 f2 f3 e S = bnd (f1 e S) (kC1 h h' f2 f3 e) := rfl
@[simp] theorem ev_c1 (h h' : Sto → Dv → Dv → Option (Dv × Sto)) : kC1 h h' f2 f3 e d S = bnd (f2 e S) (kC2 h h' f3 e d) := by
  unfold kC1
  congr 1
@[simp] theorem ev_c2 (h h' : Sto → Dv → Dv → Option (Dv × Sto)) : kC2 h h' f3 e d1 d2 S = bnd (ofO (h S d1 d2)) (kC3 h' f3 e d2) := rfl
@[simp] theorem ev_c3t (h' : Sto → Dv → Dv → Option (Dv × Sto)) : kC3 h' f3 e d (.bl true) S = bnd (f3 e S) (kB2 h' d) := rfl
@[simp] theorem ev_c3f (h' : Sto → Dv → Dv → Option (Dv × Sto)) : kC3 h' f3 e d (.bl false) S = .ok (.bl false) S := rfl
def kR1 (neg : Bool) (fa : DA) (e : Env) (a : Dv) (S : Sto) : Res Dv := bnd (fa e S) fun l S2 => rngK neg a l S2
@[simp] theorem ev_rngIn : eRngIn b f1 fa e S = bnd (f1 e S) (kR1 b fa e) := rfl
@[simp] theorem ev_kR1 : kR1 b fa e d S = bnd (fa e S) (rngK b d) := rfl
@[simp] theorem rngK_f (p lo hi : Int) : rngK false (.int p) [.int lo, .int hi] S = .ok (.bl (decide (lo ≤ p ∧ p < hi))) S := rfl
@[simp] theorem rngK_t (p lo hi : Int) : rngK true (.int p) [.int lo, .int hi] S = .ok (.bl (!decide (lo ≤ p ∧ p < hi))) S := rfl
/-- a name that stands for a def -/
def kCL (t : Str → Option DF) (fa : DA) (e : Env) (S : Sto) : Option Sl → Res Dv
  | some (.va (.glo x)) => match t x with
    | some g => bnd (fa e S) (kCall g)
    | none => .no
  | _ => .no
@[simp] theorem ev_callL (t : Str → Option DF) : eCallL t i fa e S = kCL t fa e S (e[i]?) := by unfold eCallL kCL; rfl
end
end DL
namespace DL
open PySem L2
section
variable (S : Sto) (b : Bool) (p : Int) (x : Str) (l : List Dv) (m : List (Key × Dv)) (k : Nat)
theorem kit_NoneType_str : kitB "NoneType" "str" = some false := by decide +kernel
theorem kit_NoneType_int : kitB "NoneType" "int" = some false := by decide +kernel
theorem kit_NoneType_bool : kitB "NoneType" "bool" = some false := by decide +kernel
theorem kit_NoneType_tuple : kitB "NoneType" "tuple" = some false := by decide +kernel
theorem kit_NoneType_list : kitB "NoneType" "list" = some false := by decide +kernel
theorem kit_NoneType_dict : kitB "NoneType" "dict" = some false := by decide +kernel
theorem kit_bool_str : kitB "bool" "str" = some false := by decide +kernel
theorem kit_bool_int : kitB "bool" "int" = some true := by decide +kernel
theorem kit_bool_bool : kitB "bool" "bool" = some true := by decide +kernel
theorem kit_bool_tuple : kitB "bool" "tuple" = some false := by decide +kernel
theorem kit_bool_list : kitB "bool" "list" = some false := by decide +kernel
theorem kit_bool_dict : kitB "bool" "dict" = some false := by decide +kernel
theorem kit_int_str : kitB "int" "str" = some false := by decide +kernel
theorem kit_int_int : kitB "int" "int" = some true := by decide +kernel
theorem kit_int_bool : kitB "int" "bool" = some false := by decide +kernel
theorem kit_int_tuple : kitB "int" "tuple" = some false := by decide +kernel
theorem kit_int_list : kitB "int" "list" = some false := by decide +kernel
theorem kit_int_dict : kitB "int" "dict" = some false := by decide +kernel
theorem kit_str_str : kitB "str" "str" = some true := by decide +kernel
theorem kit_str_int : kitB "str" "int" = some false := by decide +kernel
theorem kit_str_bool : kitB "str" "bool" = some false := by decide +kernel
theorem kit_str_tuple : kitB "str" "tuple" = some false := by decide +kernel
theorem kit_str_list : kitB "str" "list" = some false := by decide +kernel
theorem kit_str_dict : kitB "str" "dict" = some false := by decide +kernel
theorem kit_tuple_str : kitB "tuple" "str" = some false := by decide +kernel
theorem kit_tuple_int : kitB "tuple" "int" = some false := by decide +kernel
theorem kit_tuple_bool : kitB "tuple" "bool" = some false := by decide +kernel
theorem kit_tuple_tuple : kitB "tuple" "tuple" = some true := by decide +kernel
theorem kit_tuple_list : kitB "tuple" "list" = some false := by decide +kernel
theorem kit_tuple_dict : kitB "tuple" "dict" = some false := by decide +kernel
theorem kit_list_str : kitB "list" "str" = some false := by decide +kernel
theorem kit_list_int : kitB "list" "int" = some false := by decide +kernel
theorem kit_list_bool : kitB "list" "bool" = some false := by decide +kernel
theorem kit_list_tuple : kitB "list" "tuple" = some false := by decide +kernel
theorem kit_list_list : kitB "list" "list" = some true := by decide +kernel
theorem kit_list_dict : kitB "list" "dict" = some false := by decide +kernel
theorem kit_dict_str : kitB "dict" "str" = some false := by decide +kernel
theorem kit_dict_int : kitB "dict" "int" = some false := by decide +kernel
theorem kit_dict_bool : kitB "dict" "bool" = some false := by decide +kernel
theorem kit_dict_tuple : kitB "dict" "tuple" = some false := by decide +kernel
theorem kit_dict_list : kitB "dict" "list" = some false := by decide +kernel
theorem kit_dict_dict : kitB "dict" "dict" = some true := by decide +kernel
@[simp] theorem isi_non_str : isiD S [.non, .ty "str"] = some (.bl false, S) := by simp only [isiD, tyD, Option.bind_some, kit_NoneType_str, Option.map_some]
@[simp] theorem isi_non_int : isiD S [.non, .ty "int"] = some (.bl false, S) := by simp only [isiD, tyD, Option.bind_some, kit_NoneType_int, Option.map_some]
@[simp] theorem isi_non_bool : isiD S [.non, .ty "bool"] = some (.bl false, S) := by simp only [isiD, tyD, Option.bind_some, kit_NoneType_bool, Option.map_some]
@[simp] theorem isi_non_tuple : isiD S [.non, .ty "tuple"] = some (.bl false, S) := by simp only [isiD, tyD, Option.bind_some, kit_NoneType_tuple, Option.map_some]
@[simp] theorem isi_non_list : isiD S [.non, .ty "list"] = some (.bl false, S) := by simp only [isiD, tyD, Option.bind_some, kit_NoneType_list, Option.map_some]
@[simp] theorem isi_non_dict : isiD S [.non, .ty "dict"] = some (.bl false, S) := by simp only [isiD, tyD, Option.bind_some, kit_NoneType_dict, Option.map_some]
@[simp] theorem isi_non_tl : isiD S [.non, .tup [.ty "tuple", .ty "list"]] = some (.bl false, S) := by simp [isiD, tyD, kitD, tysOf, kitS, kit_NoneType_tuple, kit_NoneType_list]
@[simp] theorem isi_bl_str : isiD S [(.bl b), .ty "str"] = some (.bl false, S) := by simp only [isiD, tyD, Option.bind_some, kit_bool_str, Option.map_some]
@[simp] theorem isi_bl_int : isiD S [(.bl b), .ty "int"] = some (.bl true, S) := by simp only [isiD, tyD, Option.bind_some, kit_bool_int, Option.map_some]
@[simp] theorem isi_bl_bool : isiD S [(.bl b), .ty "bool"] = some (.bl true, S) := by simp only [isiD, tyD, Option.bind_some, kit_bool_bool, Option.map_some]
@[simp] theorem isi_bl_tuple : isiD S [(.bl b), .ty "tuple"] = some (.bl false, S) := by simp only [isiD, tyD, Option.bind_some, kit_bool_tuple, Option.map_some]
@[simp] theorem isi_bl_list : isiD S [(.bl b), .ty "list"] = some (.bl false, S) := by simp only [isiD, tyD, Option.bind_some, kit_bool_list, Option.map_some]
@[simp] theorem isi_bl_dict : isiD S [(.bl b), .ty "dict"] = some (.bl false, S) := by simp only [isiD, tyD, Option.bind_some, kit_bool_dict, Option.map_some]
@[simp] theorem isi_bl_tl : isiD S [(.bl b), .tup [.ty "tuple", .ty "list"]] = some (.bl false, S) := by simp [isiD, tyD, kitD, tysOf, kitS, kit_bool_tuple, kit_bool_list]
@[simp] theorem isi_int_str : isiD S [(.int p), .ty "str"] = some (.bl false, S) := by simp only [isiD, tyD, Option.bind_some, kit_int_str, Option.map_some]
@[simp] theorem isi_int_int : isiD S [(.int p), .ty "int"] = some (.bl true, S) := by simp only [isiD, tyD, Option.bind_some, kit_int_int, Option.map_some]
@[simp] theorem isi_int_bool : isiD S [(.int p), .ty "bool"] = some (.bl false, S) := by simp only [isiD, tyD, Option.bind_some, kit_int_bool, Option.map_some]
@[simp] theorem isi_int_tuple : isiD S [(.int p), .ty "tuple"] = some (.bl false, S) := by simp only [isiD, tyD, Option.bind_some, kit_int_tuple, Option.map_some]
@[simp] theorem isi_int_list : isiD S [(.int p), .ty "list"] = some (.bl false, S) := by simp only [isiD, tyD, Option.bind_some, kit_int_list, Option.map_some]
@[simp] theorem isi_int_dict : isiD S [(.int p), .ty "dict"] = some (.bl false, S) := by simp only [isiD, tyD, Option.bind_some, kit_int_dict, Option.map_some]
@[simp] theorem isi_int_tl : isiD S [(.int p), .tup [.ty "tuple", .ty "list"]] = some (.bl false, S) := by simp [isiD, tyD, kitD, tysOf, kitS, kit_int_tuple, kit_int_list]
@[simp] theorem isi_str_str : isiD S [(.str x), .ty "str"] = some (.bl true, S) := by simp only [isiD, tyD, Option.bind_some, kit_str_str, Option.map_some]
@[simp] theorem isi_str_int : isiD S [(.str x), .ty "int"] = some (.bl false, S) := by simp only [isiD, tyD, Option.bind_some, kit_str_int, Option.map_some]
@[simp] theorem isi_str_bool : isiD S [(.str x), .ty "bool"] = some (.bl false, S) := by simp only [isiD, tyD, Option.bind_some, kit_str_bool, Option.map_some]
@[simp] theorem isi_str_tuple : isiD S [(.str x), .ty "tuple"] = some (.bl false, S) := by simp only [isiD, tyD, Option.bind_some, kit_str_tuple, Option.map_some]
@[simp] theorem isi_str_list : isiD S [(.str x), .ty "list"] = some (.bl false, S) := by simp only [isiD, tyD, Option.bind_some, kit_str_list, Option.map_some]
@[simp] theorem isi_str_dict : isiD S [(.str x), .ty "dict"] = some (.bl false, S) := by simp only [isiD, tyD, Option.bind_some, kit_str_dict, Option.map_some]
@[simp] theorem isi_str_tl : isiD S [(.str x), .tup [.ty "tuple", .ty "list"]] = some (.bl false, S) := by simp [isiD, tyD, kitD, tysOf, kitS, kit_str_tuple, kit_str_list]
@[simp] theorem isi_tup_str : isiD S [(.tup l), .ty "str"] = some (.bl false, S) := by simp only [isiD, tyD, Option.bind_some, kit_tuple_str, Option.map_some]
@[simp] theorem isi_tup_int : isiD S [(.tup l), .ty "int"] = some (.bl false, S) := by simp only [isiD, tyD, Option.bind_some, kit_tuple_int, Option.map_some]
@[simp] theorem isi_tup_bool : isiD S [(.tup l), .ty "bool"] = some (.bl false, S) := by simp only [isiD, tyD, Option.bind_some, kit_tuple_bool, Option.map_some]
@[simp] theorem isi_tup_tuple : isiD S [(.tup l), .ty "tuple"] = some (.bl true, S) := by simp only [isiD, tyD, Option.bind_some, kit_tuple_tuple, Option.map_some]
@[simp] theorem isi_tup_list : isiD S [(.tup l), .ty "list"] = some (.bl false, S) := by simp only [isiD, tyD, Option.bind_some, kit_tuple_list, Option.map_some]
@[simp] theorem isi_tup_dict : isiD S [(.tup l), .ty "dict"] = some (.bl false, S) := by simp only [isiD, tyD, Option.bind_some, kit_tuple_dict, Option.map_some]
@[simp] theorem isi_tup_tl : isiD S [(.tup l), .tup [.ty "tuple", .ty "list"]] = some (.bl true, S) := by simp [isiD, tyD, kitD, tysOf, kitS, kit_tuple_tuple, kit_tuple_list]
@[simp] theorem isi_lst_str : isiD S [(.lst l), .ty "str"] = some (.bl false, S) := by simp only [isiD, tyD, Option.bind_some, kit_list_str, Option.map_some]
@[simp] theorem isi_lst_int : isiD S [(.lst l), .ty "int"] = some (.bl false, S) := by simp only [isiD, tyD, Option.bind_some, kit_list_int, Option.map_some]
@[simp] theorem isi_lst_bool : isiD S [(.lst l), .ty "bool"] = some (.bl false, S) := by simp only [isiD, tyD, Option.bind_some, kit_list_bool, Option.map_some]
@[simp] theorem isi_lst_tuple : isiD S [(.lst l), .ty "tuple"] = some (.bl false, S) := by simp only [isiD, tyD, Option.bind_some, kit_list_tuple, Option.map_some]
@[simp] theorem isi_lst_list : isiD S [(.lst l), .ty "list"] = some (.bl true, S) := by simp only [isiD, tyD, Option.bind_some, kit_list_list, Option.map_some]
@[simp] theorem isi_lst_dict : isiD S [(.lst l), .ty "dict"] = some (.bl false, S) := by simp only [isiD, tyD, Option.bind_some, kit_list_dict, Option.map_some]
@[simp] theorem isi_lst_tl : isiD S [(.lst l), .tup [.ty "tuple", .ty "list"]] = some (.bl true, S) := by simp [isiD, tyD, kitD, tysOf, kitS, kit_list_tuple, kit_list_list]
@[simp] theorem isi_rol_str : isiD S [(.rol l), .ty "str"] = some (.bl false, S) := by simp only [isiD, tyD, Option.bind_some, kit_list_str, Option.map_some]
@[simp] theorem isi_rol_int : isiD S [(.rol l), .ty "int"] = some (.bl false, S) := by simp only [isiD, tyD, Option.bind_some, kit_list_int, Option.map_some]
@[simp] theorem isi_rol_bool : isiD S [(.rol l), .ty "bool"] = some (.bl false, S) := by simp only [isiD, tyD, Option.bind_some, kit_list_bool, Option.map_some]
@[simp] theorem isi_rol_tuple : isiD S [(.rol l), .ty "tuple"] = some (.bl false, S) := by simp only [isiD, tyD, Option.bind_some, kit_list_tuple, Option.map_some]
@[simp] theorem isi_rol_list : isiD S [(.rol l), .ty "list"] = some (.bl true, S) := by simp only [isiD, tyD, Option.bind_some, kit_list_list, Option.map_some]
@[simp] theorem isi_rol_dict : isiD S [(.rol l), .ty "dict"] = some (.bl false, S) := by simp only [isiD, tyD, Option.bind_some, kit_list_dict, Option.map_some]
@[simp] theorem isi_rol_tl : isiD S [(.rol l), .tup [.ty "tuple", .ty "list"]] = some (.bl true, S) := by simp [isiD, tyD, kitD, tysOf, kitS, kit_list_tuple, kit_list_list]
@[simp] theorem isi_dic_str : isiD S [(.dic m), .ty "str"] = some (.bl false, S) := by simp only [isiD, tyD, Option.bind_some, kit_dict_str, Option.map_some]
@[simp] theorem isi_dic_int : isiD S [(.dic m), .ty "int"] = some (.bl false, S) := by simp only [isiD, tyD, Option.bind_some, kit_dict_int, Option.map_some]
@[simp] theorem isi_dic_bool : isiD S [(.dic m), .ty "bool"] = some (.bl false, S) := by simp only [isiD, tyD, Option.bind_some, kit_dict_bool, Option.map_some]
@[simp] theorem isi_dic_tuple : isiD S [(.dic m), .ty "tuple"] = some (.bl false, S) := by simp only [isiD, tyD, Option.bind_some, kit_dict_tuple, Option.map_some]
@[simp] theorem isi_dic_list : isiD S [(.dic m), .ty "list"] = some (.bl false, S) := by simp only [isiD, tyD, Option.bind_some, kit_dict_list, Option.map_some]
@[simp] theorem isi_dic_dict : isiD S [(.dic m), .ty "dict"] = some (.bl true, S) := by simp only [isiD, tyD, Option.bind_some, kit_dict_dict, Option.map_some]
@[simp] theorem isi_dic_tl : isiD S [(.dic m), .tup [.ty "tuple", .ty "list"]] = some (.bl false, S) := by simp [isiD, tyD, kitD, tysOf, kitS, kit_dict_tuple, kit_dict_list]
/-- a turn of a for -/
theorem forR_nx {gd : DG} {body : DS} {d : Dv} {ds : List Dv} {e e1 e2 : Env} {S S1 : Sto} (h1 : gd d e = some e1) (h2 : body e1 S = .nx e2 S1) : forR gd body (d :: ds) e S = forR gd body ds e2 S1 := by simp only [forR, h1, h2]
end
end DL
namespace TX
open PySem PySem.Spec PyProof.Rows L2
def ltS (a b : Str) : Prop := a.cps.toList < b.cps.toList
instance (a b : Str) : Decidable (ltS a b) := inferInstanceAs (Decidable (a.cps.toList < b.cps.toList))
def insS (x : Str) : List Str → List Str
  | [] => [x]
  | y :: r => if x = y then y :: r else if ltS x y then x :: y :: r else y :: insS x r
def srtS (l : List Str) : List Str := l.foldr insS []
end TX
namespace DL
open PySem L2
def strsD : List Dv → Option (List Str)
  | [] => some []
  | .str x :: l => (strsD l).map (x :: ·)
  | _ :: _ => none
/-- sorted(set(x)), x a list of texts -/
def srtSetK (l : List Dv) (S : Sto) : Res (List Dv) := match l with
  | [d] => match (asL S d).bind strsD with
    | some ws => if ws.length ≤ 4000 then .ok ((TX.srtS ws).map Dv.str) S else .no
    | none => .no
  | _ => .no
def fSrtSet (fa : DA) : DL := fun e S => bnd (fa e S) srtSetK
end DL
namespace DL
open PySem L2
def repD (S : Sto) (a b : Dv) : Option (Dv × Sto) := match b with
  | .int k => (asH S a).bind fun l => if -(2 ^ 63) ≤ k ∧ k < 2 ^ 63 ∧ l.length * k.toNat ≤ sizeLine then some (.lst (List.replicate k.toNat l).flatten, S) else none
  | _ => none
section
variable {K : PySem.W.Frag} {L : Addr → Prop} {io : List Addr} {H : Hp}
theorem VRs.rep {xs : List V} {l : List Dv} (r : VRs K L io H xs l) : ∀ k : Nat, VRs K L io H (List.replicate k xs).flatten (List.replicate k l).flatten
  | 0 => .nil
  | k + 1 => by
    rw [List.replicate_succ, List.replicate_succ, List.flatten_cons, List.flatten_cons]
    exact r.app (VRs.rep r k)
theorem ops_rep : OpS K rRep repD := by
  intro L io H S x y a b d S' Q sr ra rb e q
  cases b with
  | int k =>
    simp only [repD] at e
    cases h : asH S a with
    | none => rw [h] at e; cases e
    | some l =>
      rw [h] at e
      simp only [Option.bind_some] at e
      split at e
      · rename_i hk
        cases e
        obtain ⟨p1, xs, rfl, e1, r1⟩ := asH_x sr ra h
        cases rb.vr rfl
        exact ⟨_, k, xs, rfl, rfl, e1, hk.1, hk.2.1, by rw [r1.len]; exact hk.2.2, fun p hp => q _ _ L io (Stp.alloc hp) (sr.alloc hp) (VR.newL sr hp (VRs.rep r1 _))⟩
      · cases e
  | _ => cases e
end
theorem qe_rep {X : Cx} {W : WX} {pos : Pos} {a b : Expr} {f1 f2 : DE} (ha : QX X W a f1) (hb : QX X W b f2) : QE X W (.BinOp a .Mult b pos) (eBin repD f1 f2) := qe_op op_rep ops_rep ha hb
/-- sorted(set(x)) as it is run -/
@[simp] theorem ev_srtSet (fa : DA) (e : Env) (S : Sto) : fSrtSet fa e S = bnd (fa e S) srtSetK := rfl
end DL
namespace DL
open PySem L2
section
variable (S S' : Sto) (e : Env) (d d1 d2 d3 : Dv) (l l' : List Dv) (f f1 f2 f3 fo fi fv : DE) (fa : DA) (fl fl1 : DL) (c m x : Str) (g : DF) (k i j : Nat)
@[simp] theorem ev_fld : eFld c x f e S = bnd (f e S) (kFld c x) := rfl
def kFld2 (S : Sto) : Option Dv → Res Dv
  | some x => .ok x S
  | none => .no
@[simp] theorem kFld_obj (fs : List (Str × Dv)) : kFld c x (.obj c fs) S = kFld2 S (fs.lookup x) := by
  simp only [kFld, insOf, if_true]; unfold kFld2; cases fs.lookup x <;> rfl
@[simp] theorem kFld2_some : kFld2 S (some d) = .ok d S := rfl
@[simp] theorem ev_meth (dl : List Dv) : eMeth c m dl g fo fa e S = bnd (fo e S) (kMeth c m dl g fa e) := rfl
def kMe2 (dl : List Dv) (g : DF) (d : Dv) (as : List Dv) (S : Sto) : Res Dv := g S (d :: (as ++ dl))
@[simp] theorem ev_me2 (dl as : List Dv) : kMe2 dl g d as S = g S (d :: (as ++ dl)) := rfl
def kCm (c : Str) (g : DF) (l : List Dv) (S : Sto) : Res Dv := g S (.glo c :: l)
@[simp] theorem ev_cm : eCm c g fa e S = bnd (fa e S) (kCm c g) := rfl
@[simp] theorem ev_kcm : kCm c g l S = g S (.glo c :: l) := rfl
@[simp] theorem ev_tab (t : List (Str × Dv)) : eTab t f e S = bnd (f e S) (tabD t) := rfl
def kTab2 (S : Sto) : Option Dv → Res Dv
  | some x => .ok x S
  | none => .no
@[simp] theorem tabD_str (t : List (Str × Dv)) (z : Str) : tabD t (.str z) S = kTab2 S (t.lookup z) := by simp only [tabD]; unfold kTab2; cases t.lookup z <;> rfl
@[simp] theorem kTab2_some : kTab2 S (some d) = .ok d S := rfl
@[simp] theorem ev_zip : iZip' fa e S = bnd (fa e S) zipR := rfl
@[simp] theorem ev_enum : iEnum' fa e S = bnd (fa e S) enumR := rfl
@[simp] theorem zipR_tt : zipR [.tup l, .tup l'] S = .ok (zipD l l') S := rfl
@[simp] theorem zipR_tl : zipR [.tup l, .lst l'] S = .ok (zipD l l') S := rfl
@[simp] theorem zipR_lt : zipR [.lst l, .tup l'] S = .ok (zipD l l') S := rfl
@[simp] theorem zipR_ll : zipR [.lst l, .lst l'] S = .ok (zipD l l') S := rfl
@[simp] theorem enumR_t : enumR [.tup l] S = .ok (enumD l) S := rfl
@[simp] theorem enumR_l : enumR [.lst l] S = .ok (enumD l) S := rfl
@[simp] theorem ev_ddict : dDict fa e S = bnd (fa e S) dictK := rfl
@[simp] theorem ev_revT : eRevT f e S = bnd (f e S) revD := rfl
end
end DL
namespace DL
open PySem L2
end DL
namespace DL
open PySem L2
end DL
namespace DL
open PySem L2
end DL
namespace DL
open PySem L2
def blt : List String := ["NoneType", "bool", "int", "str", "tuple", "list", "dict"]
theorem mem_lookupB {k : Str} {d : Bool} : ∀ {l : List (Str × Bool)}, l.lookup k = some d → (k, d) ∈ l
  | [], h => by simp at h
  | (k', d') :: l, h => by
    rw [List.lookup_cons] at h
    cases e : k == k' with
    | true =>
      rw [e] at h
      cases h
      rw [beq_iff_eq.mp e]
      exact List.mem_cons_self
    | false => rw [e] at h; exact List.mem_cons_of_mem _ (mem_lookupB h)
def rgtOk (S : Sto) (c : Str) (b : Dv) : Bool := match insOf S b with
  | some (c', _) => decide (c' = c)
  | none => (tyD S b).isSome
def blR (neg : Bool) : Res Dv → Res Dv
  | .ok (.bl r) S' => .ok (.bl (if neg then !r else r)) S'
  | _ => .no
def kEqO (neg : Bool) (c : Str) (g : DF) (a b : Dv) (S : Sto) : Res Dv := match insOf S a with
  | some (c', _) => if c' = c ∧ rgtOk S c b = true then blR neg (g S [a, b]) else .no
  | none => .no
def eEqO (neg : Bool) (c : Str) (g : DF) (f1 f2 : DE) : DE := fun e S => bnd (f1 e S) fun a S1 => bnd (f2 e S1) fun b S2 => kEqO neg c g a b S2
end DL
namespace DL
open PySem L2
def kLIx (fa : DE) (e : Env) (d : Dv) (S : Sto) : Res Dv := match d with
  | .lst l => bnd (fa e S) (tixE l)
  | _ => .no
def eLIx (f fa : DE) : DE := fun e S => bnd (f e S) (kLIx fa e)
section
variable (S : Sto) (e : Env) (d : Dv) (l l' : List Dv) (f f1 f2 fa : DE) (c : Str) (g : DF) (b neg : Bool)
@[simp] theorem ev_lix : eLIx f fa e S = bnd (f e S) (kLIx fa e) := rfl
@[simp] theorem ev_klix : kLIx fa e (.lst l) S = bnd (fa e S) (tixE l) := rfl
def kEO1 (neg : Bool) (c : Str) (g : DF) (f2 : DE) (e : Env) (a : Dv) (S : Sto) : Res Dv := bnd (f2 e S) fun b S2 => kEqO neg c g a b S2
@[simp] theorem ev_eqO : eEqO neg c g f1 f2 e S = bnd (f1 e S) (kEO1 neg c g f2 e) := rfl
@[simp] theorem ev_kEO1 : kEO1 neg c g f2 e d S = bnd (f2 e S) (kEqO neg c g d) := rfl
@[simp] theorem blR_ok : blR neg (.ok (.bl b) S) = .ok (.bl (if neg then !b else b)) S := rfl
end
end DL
namespace DL
open PySem L2
end DL
namespace DL
open PySem PySem.Spec PyProof.Rows L2
def oexOk (K : PySem.W.Frag) (C : Addr) : Bool := match K.lookup C with
  | some ⟨.type "type", _, .cls cd, sl⟩ => (match cd.mro, sl.toList with
    | .ref C' :: bm, [_, _, _, _, some (.builtin n), _] => C' == C && n == "ValueError.__new__" && !cd.hasDel && cd.hasDict && PySem.HandSPX.refsVE bm
    | _, _ => false)
  | _ => false
theorem oexOk_of {K : PySem.W.Frag} {C : Addr} (q : oexOk K C = true) : ∃ nm q N bs bm sn sub ab col dd k0 k1 k2 k3 k5, K.lookup C = some (excClassObj nm q C N bs bm true sn sub ab col dd k0 k1 k2 k3 k5 "ValueError.__new__") ∧ PySem.HandSPX.refsVE bm = true := by
  unfold oexOk at q
  split at q
  · rename_i dd cd sl ho
    split at q
    · rename_i C' bm k0 k1 k2 k3 n k5 hm hs
      simp only [Bool.and_eq_true, beq_iff_eq, Bool.not_eq_true'] at q
      obtain ⟨⟨⟨⟨rfl, rfl⟩, hdel⟩, hdc⟩, ht⟩ := q
      obtain ⟨nm, bs, mro, ns, qn, hd, sn, sub, ab, col, del⟩ := cd
      dsimp only at hm hdel hdc
      subst hm hdel hdc
      have hsl : sl = #[k0, k1, k2, k3, some (.builtin "ValueError.__new__"), k5] := by
        obtain ⟨l⟩ := sl
        simp only at hs
        rw [hs]
      subst hsl
      exact ⟨nm, qn, ns, bs, bm, sn, sub, ab, col, dd, k0, k1, k2, k3, k5, ho, ht⟩
    · cases q
  · cases q
/-- the facts of the class c: made, its fields stored and read, asked by isinstance -/
structure XcF (K : PySem.W.Frag) (C : Addr) (f : Addr) (ns : List Str) : Prop where
  o : OexC K C
  i : PySem.W.findIn K (.ref C) "__init__" = some (some (.ref f))
  t : PySem.W.typeIn K (.ref f) = some (.type "function")
  x : XfC K C
  no : ∀ n ∈ ns, PySem.W.findIn K (.ref C) n = some none
  cl : (PySem.W.clsIn K C).isSome = true
  ha : PySem.W.findIn K (.ref C) "__class__" = some (some (.builtin "object.__class__"))
  hn : PySem.W.specialIn K (.builtin "object.__class__") "__get__" = some (some (.builtin "getset_descriptor.__get__"))
  ht : PySem.W.takesIn K (.builtin "object.__class__") = some true
  hm : PySem.W.mroIn K C (.type "object") = some true
def xcOk (K : PySem.W.Frag) (C f : Addr) (ns : List Str) : Bool := oexOk K C && (PySem.W.findIn K (.ref C) "__setattr__" == some (some (.builtin "object.__setattr__"))) && (PySem.W.subIn K (.ref C) (.type "BaseException") == some true) && (PySem.W.typeIn K (.ref C) == some (.type "type")) && PySem.W.keepIn K (.ref C) &&
  (PySem.W.findIn K (.ref C) "__init__" == some (some (.ref f))) && (PySem.W.typeIn K (.ref f) == some (.type "function")) && xfB K C && (ns.all fun n => PySem.W.findIn K (.ref C) n == some none) && (PySem.W.clsIn K C).isSome &&
  (PySem.W.findIn K (.ref C) "__class__" == some (some (.builtin "object.__class__"))) && (PySem.W.specialIn K (.builtin "object.__class__") "__get__" == some (some (.builtin "getset_descriptor.__get__"))) && (PySem.W.takesIn K (.builtin "object.__class__") == some true) && (PySem.W.mroIn K C (.type "object") == some true)
theorem xcOk_of {K : PySem.W.Frag} {C f : Addr} {ns : List Str} (h : xcOk K C f ns = true) : XcF K C f ns := by
  unfold xcOk at h
  obtain ⟨h, h14⟩ := He.ba h
  obtain ⟨h, h13⟩ := He.ba h
  obtain ⟨h, h12⟩ := He.ba h
  obtain ⟨h, h11⟩ := He.ba h
  obtain ⟨h, h10⟩ := He.ba h
  obtain ⟨h, h9⟩ := He.ba h
  obtain ⟨h, h8⟩ := He.ba h
  obtain ⟨h, h7⟩ := He.ba h
  obtain ⟨h, h6⟩ := He.ba h
  obtain ⟨h, h5⟩ := He.ba h
  obtain ⟨h, h4⟩ := He.ba h
  obtain ⟨h, h3⟩ := He.ba h
  obtain ⟨h1, h2⟩ := He.ba h
  exact ⟨⟨oexOk_of h1, beq_iff_eq.mp h2, beq_iff_eq.mp h3, beq_iff_eq.mp h4, h5⟩, beq_iff_eq.mp h6, beq_iff_eq.mp h7, xfB_ok h8, fun n hn => beq_iff_eq.mp (List.all_eq_true.mp h9 n hn), h10, beq_iff_eq.mp h11, beq_iff_eq.mp h12, beq_iff_eq.mp h13, beq_iff_eq.mp h14⟩
def xcB (c : Str) (ns : List Str) : Ft := .any fun K => xcOk K (He.ga K c) (He.ma K (He.ga K c) "__init__") ns
theorem xc_f {K : PySem.W.Frag} {c : Str} {ns : List Str} (h : (xcB c ns).ok K = true) : XcF K (He.ga K c) (He.ma K (He.ga K c) "__init__") ns := xcOk_of h
/-- the base class, whose __init__ is ValueError's -/
structure FeF (K : PySem.W.Frag) (C : Addr) : Prop where
  r : ClX.CRead K C (.type "type")
  i : PySem.W.findCls K (.ref C) (.type "type") "__init__" = some (.val (.builtin "ValueError.__init__"))
def veI (r : Option PySem.W.CFound) : Bool := match r with
  | some (.val (.builtin n)) => n == "ValueError.__init__"
  | _ => false
theorem veI_of {r : Option PySem.W.CFound} (h : veI r = true) : r = some (.val (.builtin "ValueError.__init__")) := by
  unfold veI at h
  split at h
  · rw [beq_iff_eq.mp h]
  · cases h
def feB (c : Str) : Ft := .any fun K => (readB c).ok K && veI (PySem.W.findCls K (.ref (He.ga K c)) (.type "type") "__init__")
theorem fe_f {K : PySem.W.Frag} {c : Str} (h : (feB c).ok K = true) : FeF K (He.ga K c) := by
  obtain ⟨h1, h2⟩ := He.ba (show ((readB c).ok K && veI (PySem.W.findCls K (.ref (He.ga K c)) (.type "type") "__init__")) = true from h)
  exact ⟨read_f h1, veI_of h2⟩
section
variable {X : Cx} {e : Expr} {es : List Expr} {ta : TA} {p1 p2 pos : Pos} {b : Str} {B : Addr}
theorem pe_feinit {pl : Sem Bool} (hg : Gl X b) (hm : X.mg b = some (.ref B)) (T : FeF X.K B) (ha : PA X (e :: es) ta) (hdb : (b == ("__debug__" : Str)) = false := by decide)
    (hc : eval (.Call (.Attribute (.Name b p1) "__init__" p2) (e :: es) [] pos) X.env = (do
      let ov ← eval (.Name b p1) X.env
      standAt p2.atName
      let (f, first) ← holding [ov] (getMethod ov "__init__" pl)
      callWith pos f first (backTo pos (starEach (e :: es) X.env)) (backToKw pos (keywordEach [] X.env))) := by rfl)
    (he : starEach (e :: es) X.env = (false, eval e X.env) :: starEach es X.env := by rfl) (hpl : (backTo pos (starEach es X.env)).any (·.1) = false := by rfl) :
    PE X (.Call (.Attribute (.Name b p1) "__init__" p2) (e :: es) [] pos) (tVeI X.K ta) := by
  refine ⟨fun pins s σ H Q I h => ?_⟩
  refine PySem.W.methodCall_KW (pl := pl) (ld_glob I hg hm ?_ hdb) hc
  refine PySem.W.method_cls I.kIn T.r.ga (PySem.W.cls_value I.kIn T.r.rd T.i (by decide +kernel) ?_)
  show wpAny _ _ (callWith pos (Value.builtin "ValueError.__init__") [] (backTo pos (starEach (e :: es) X.env)) []) _ _ _
  refine PyProof.Rows.callWith_method1 (thn (ha.run pos pins _ σ H _ (I.tok _) h) fun us s1 ⟨vs, H1, I1, r1, a, C, ws, ev, hl, T, ea, q⟩ => ?_) he hpl
  subst ev
  cases r1 with
  | @cons _ u0 _ ur ra rw' =>
    obtain rfl : u0 = Value.ref a := ra
    have hlen : ur.length ≤ sizeLine := by
      rw [← Paired.length rw', sizeLine_eq]
      omega
    exact oinit_ok T I1 ea hlen fun s' J => ⟨.non, H1, J, rfl, q⟩
end
/-- what __init__ does: the fields stand in the exception's new dict -/
def XiT (K : PySem.W.Frag) (ns : List Str) : TS := fun D σ H => ∃ (a C : Addr) (ws : List V), σ[0]? = some (some (.ref a)) ∧ ws.length = ns.length ∧ (∀ (i : Nat) (w : V), ws[i]? = some w → σ[i + 1]? = some (some w)) ∧ OexC K C ∧ (∀ n ∈ ns, PySem.W.findIn K (.ref C) n = some none) ∧ H a = some (exo a C none) ∧
  ∀ dx H2, H dx = none → dx ≠ a → H2 a = some (exo a C (some dx)) → H2 dx = some (exd dx (ns.zip ws).reverse) → (∀ b, b ≠ a → b ≠ dx → H2 b = H b) → D.nx σ H2
section
variable {X : Cx} {p1 p2 p3 p4 p5 p6 p7 p8 p9 p10 p11 p12 p13 p14 : Pos} {b se x1 x2 f1 f2 tx : Str} {B : Addr} {j : Nat}
theorem pss_xi1 {pl : Sem Bool} (hg : Gl X b) (hm : X.mg b = some (.ref B)) (T : FeF X.K B) (h0 : X.N[0]? = some se := by rfl) (h1 : X.N[1]? = some x1 := by rfl)
    (v0 : Vis X.env.scope se := by first | exact Or.inl rfl | exact Or.inr (Or.inl rfl) | exact Or.inr (Or.inr rfl)) (v1 : Vis X.env.scope x1 := by first | exact Or.inl rfl | exact Or.inr (Or.inl rfl) | exact Or.inr (Or.inr rfl))
    (d0 : (se == ("__debug__" : Str)) = false := by decide) (d1 : (x1 == ("__debug__" : Str)) = false := by decide) (c0 : (se == ("__classdict__" : Str)) = false := by decide) (c1 : (x1 == ("__classdict__" : Str)) = false := by decide) (hdb : (b == ("__debug__" : Str)) = false := by decide)
    (hc : eval (.Call (.Attribute (.Name b p1) "__init__" p2) [.Name se p3, .Constant (.str tx) j p4] [] p5) X.env = (do
      let ov ← eval (.Name b p1) X.env
      standAt p2.atName
      let (f, first) ← holding [ov] (getMethod ov "__init__" pl)
      callWith p5 f first (backTo p5 (starEach [.Name se p3, .Constant (.str tx) j p4] X.env)) (backToKw p5 (keywordEach [] X.env))) := by rfl)
    (hs1 : swapsWith (.Call (.Attribute (.Name b p1) "__init__" p2) [.Name se p3, .Constant (.str tx) j p4] [] p5) none p6.line X.env = pure false := by rfl) (hs2 : swapsWith (.Name x1 p9) (some (.Attribute (.Name se p7) f1 p8)) p10.line X.env = pure false := by rfl) :
    PSs X [.Expr (.Call (.Attribute (.Name b p1) "__init__" p2) [.Name se p3, .Constant (.str tx) j p4] [] p5) p6, .Assign [.Attribute (.Name se p7) f1 p8] (.Name x1 p9) p10] (XiT X.K [f1]) := by
  refine pss_imp (pss_cons (ps_expr (pe_feinit (pl := pl) hg hm T (pa_cons (pe_var h0 v0 d0 c0) (pa_cons pe_str pa_nil)) hdb hc) hs1) (pss_one (ps_ost (pe_var h0 v0 d0 c0) (pe_var h1 v1 d1 c1) hs2))) fun D σ H h => ?_
  obtain ⟨a, C, ws, e0, hl, hw, O, no, ea, q⟩ := h
  match ws, hl with
  | [w], _ =>
    have e1 := hw 0 w rfl
    refine ⟨.ref a, e0, a, C, [.str tx], rfl, Nat.le_of_ble_eq_true rfl, O, ea, ?_⟩
    refine ⟨w, e1, .ref a, e0, a, C, rfl, O, no f1 (List.mem_singleton.mpr rfl), .inl ⟨ea, fun dx hd hne => ?_⟩⟩
    exact q dx _ hd hne upd_same (by rw [upd_ne hne, upd_same]; rfl) fun b hb hbd => by rw [upd_ne hb, upd_ne hbd]
theorem pss_xi2 {pl : Sem Bool} (hg : Gl X b) (hm : X.mg b = some (.ref B)) (T : FeF X.K B) (h0 : X.N[0]? = some se := by rfl) (h1 : X.N[1]? = some x1 := by rfl) (h2 : X.N[2]? = some x2 := by rfl)
    (v0 : Vis X.env.scope se := by first | exact Or.inl rfl | exact Or.inr (Or.inl rfl) | exact Or.inr (Or.inr rfl)) (v1 : Vis X.env.scope x1 := by first | exact Or.inl rfl | exact Or.inr (Or.inl rfl) | exact Or.inr (Or.inr rfl)) (v2 : Vis X.env.scope x2 := by first | exact Or.inl rfl | exact Or.inr (Or.inl rfl) | exact Or.inr (Or.inr rfl))
    (d0 : (se == ("__debug__" : Str)) = false := by decide) (d1 : (x1 == ("__debug__" : Str)) = false := by decide) (d2 : (x2 == ("__debug__" : Str)) = false := by decide) (c0 : (se == ("__classdict__" : Str)) = false := by decide) (c1 : (x1 == ("__classdict__" : Str)) = false := by decide) (c2 : (x2 == ("__classdict__" : Str)) = false := by decide) (hdb : (b == ("__debug__" : Str)) = false := by decide)
    (hc : eval (.Call (.Attribute (.Name b p1) "__init__" p2) [.Name se p3, .Constant (.str tx) j p4] [] p5) X.env = (do
      let ov ← eval (.Name b p1) X.env
      standAt p2.atName
      let (f, first) ← holding [ov] (getMethod ov "__init__" pl)
      callWith p5 f first (backTo p5 (starEach [.Name se p3, .Constant (.str tx) j p4] X.env)) (backToKw p5 (keywordEach [] X.env))) := by rfl)
    (hs1 : swapsWith (.Call (.Attribute (.Name b p1) "__init__" p2) [.Name se p3, .Constant (.str tx) j p4] [] p5) none p6.line X.env = pure false := by rfl) (hs2 : swapsWith (.Name x1 p9) (some (.Attribute (.Name se p7) f1 p8)) p10.line X.env = pure false := by rfl) (hs3 : swapsWith (.Name x2 p13) (some (.Attribute (.Name se p11) f2 p12)) p14.line X.env = pure false := by rfl) :
    PSs X [.Expr (.Call (.Attribute (.Name b p1) "__init__" p2) [.Name se p3, .Constant (.str tx) j p4] [] p5) p6, .Assign [.Attribute (.Name se p7) f1 p8] (.Name x1 p9) p10, .Assign [.Attribute (.Name se p11) f2 p12] (.Name x2 p13) p14] (XiT X.K [f1, f2]) := by
  refine pss_imp (pss_cons (ps_expr (pe_feinit (pl := pl) hg hm T (pa_cons (pe_var h0 v0 d0 c0) (pa_cons pe_str pa_nil)) hdb hc) hs1) (pss_cons (ps_ost (pe_var h0 v0 d0 c0) (pe_var h1 v1 d1 c1) hs2) (pss_one (ps_ost (pe_var h0 v0 d0 c0) (pe_var h2 v2 d2 c2) hs3)))) fun D σ H h => ?_
  obtain ⟨a, C, ws, e0, hl, hw, O, no, ea, q⟩ := h
  match ws, hl with
  | [w1, w2], _ =>
    have e1 := hw 0 w1 rfl
    have e2 := hw 1 w2 rfl
    refine ⟨.ref a, e0, a, C, [.str tx], rfl, Nat.le_of_ble_eq_true rfl, O, ea, ?_⟩
    refine ⟨w1, e1, .ref a, e0, a, C, rfl, O, no f1 (List.mem_cons_self ..), .inl ⟨ea, fun dx hd hne => ?_⟩⟩
    refine ⟨w2, e2, .ref a, e0, a, C, rfl, O, no f2 (List.mem_cons_of_mem _ (List.mem_cons_self ..)), .inr ⟨dx, [(f1, w1)], upd_same, by rw [upd_ne hne, upd_same], Nat.le_of_ble_eq_true rfl, ?_⟩⟩
    exact q dx _ hd hne (by rw [upd_ne (Ne.symm hne), upd_same]) (by rw [upd_same]; rfl) fun b hb hbd => by rw [upd_ne hbd, upd_ne hb, upd_ne hbd]
end
/-- what __init__ of an exception of the class at C promises -/
def spX (C : Addr) (ns : List Str) : Sp := fun vs H Q E => ∃ (a : Addr) (ws : List V), vs = .ref a :: ws ∧ ws.length = ns.length ∧ H a = some (exo a C none) ∧
  ∀ dx H2, H dx = none → dx ≠ a → H2 a = some (exo a C (some dx)) → H2 dx = some (exd dx (ns.zip ws).reverse) → (∀ b, b ≠ a → b ≠ dx → H2 b = H b) → Q .non H2
/-- the exception class c, its fields ns in the order of __init__'s parameters; g says whether there is room -/
def FX (P : Program) (w : World) (K : PySem.W.Frag) (mg : Str → Option Value) (base : Heap) (k : Nat) (c : Str) (ns : List Str) (g : DF) : Prop :=
  (∀ S l, g S l = .no) ∨ ∃ (fd : FuncData) (ps : List Str), FnG P w K mg base k (He.ma K (He.ga K c) "__init__") fd ps (spX (He.ga K c) ns) ∧ mg c = some (.ref (He.ga K c)) ∧ XcF K (He.ga K c) (He.ma K (He.ga K c) "__init__") ns ∧ Binds K fd ps []
def gX : DF := fun S _ => .ok .non S
theorem fx_no {P : Program} {w : World} {K : PySem.W.Frag} {mg : Str → Option Value} {base : Heap} {k : Nat} {c : Str} {ns : List Str} : FX P w K mg base k c ns gNo := .inl fun _ _ => rfl
theorem fx_mk {P : Program} {w : World} {K : PySem.W.Frag} {mg : Str → Option Value} {base : Heap} {k : Nat} {c qual : Str} {ns ps N : List Str} {st : Stmt} (F : ∃ fd, FunD K "__init__" qual (defArgs st) (defBody st) (defScope st) [] [] (He.ma K (He.ga K c) "__init__") fd)
    (hm : mg c = some (.ref (He.ga K c))) (T : XcF K (He.ga K c) (He.ma K (He.ga K c) "__init__") ns) (Sc : FnScope N ps (defScope st)) (hbi : BindN "__init__" qual st ps) (hl : ps.length = ns.length + 1)
    (hb : ∀ (cdv : Value) (A : Around) (up : List PySem.Env) (s : Shared) (H : Hp) (E : XK), PSs (cxOf (L2.CX P w) P w K mg base N qual (defScope st) (He.ma K (He.ga K c) "__init__") cdv A up s H E) (defBody st) (XiT K ns)) : FX P w K mg base (k + 2) c ns gX := by
  obtain ⟨fd, F⟩ := F
  refine .inr ⟨fd, ps, ?_, hm, T, F.bindsN hbi⟩
  obtain ⟨oc, od, dV, kV, doc, pm, an, cdv, ct, osl, rfl, lk, hcd, _, _⟩ := F.ex
  refine FnG.mono (j := 0 + 1) (fng_of lk hcd Sc (fun vs H Q E h => ?_) fun A outer s H vs Q E hr h => ⟨_, hb cdv A outer s H E, ?_⟩) (by omega)
  · obtain ⟨a, ws, rfl, h1, _⟩ := h
    rw [List.length_cons, h1, hl]
  · obtain ⟨a, ws, rfl, h1, ea, q⟩ := h
    refine ⟨a, He.ga K c, ws, rfl, h1, fun i w hw => ?_, T.o, T.no, ea, fun dx H2 k1 k2 k3 k4 k5 => q dx H2 k1 k2 k3 k4 k5⟩
    show ((V.ref a :: ws).map some ++ _)[i + 1]? = _
    rw [List.map_cons, List.cons_append, List.getElem?_cons_succ, List.getElem?_append_left (by rw [List.length_map]; exact (List.getElem?_eq_some_iff.mp hw).1), List.getElem?_map, hw]
    rfl
def kRaise (g : DF) (c : Str) (ns : List Str) (e : Env) (l : List Dv) (S : Sto) : Out := match g S l with
  | .ok _ _ => if l.length = ns.length then .ex c (ns.zip l).reverse e S else .no
  | _ => .no
def sRaise (g : DF) (c : Str) (ns : List Str) (fa : DA) : DS := fun e S => match fa e S with
  | .ok l S1 => kRaise g c ns e l S1
  | _ => .no
theorem pairR_zip {K : PySem.W.Frag} {L : Addr → Prop} {io : List Addr} {H : Hp} : ∀ (ns : List Str) {vs : List V} {l : List Dv}, VRs K L io H vs l → PairR (VR K L io H) (ns.zip vs) (ns.zip l)
  | [], _, _, _ => .nil
  | _ :: _, _, _, .nil => .nil
  | n :: ns, _, _, .cons r t => .cons ⟨rfl, r⟩ (pairR_zip ns t)
theorem Paired.snoc {α β : Type} {R : α → β → Prop} {x : α} {y : β} (h : R x y) : ∀ {l : List α} {m : List β}, Paired R l m → Paired R (l ++ [x]) (m ++ [y])
  | _, _, .nil => .cons h .nil
  | _, _, .cons r t => .cons r (Paired.snoc h t)
theorem Paired.rev {α β : Type} {R : α → β → Prop} : ∀ {l : List α} {m : List β}, Paired R l m → Paired R l.reverse m.reverse
  | _, _, .nil => .nil
  | _, _, .cons r t => by
    rw [List.reverse_cons, List.reverse_cons]
    exact Paired.snoc r (Paired.rev t)
end DL
namespace DL
open PySem PySem.Spec PyProof.Rows L2
abbrev HR (α : Type) := Str → List (Str × Dv) → Env → Sto → Res α
theorem ExR.step {K : PySem.W.Frag} {L L' : Addr → Prop} {io io' : List Addr} {H H' : Hp} {x : Option Addr} {fs : List (Str × Dv)} (h : ExR K L io H x fs) (s : Stp L io H L' io' H') (sub : ∀ x ∈ io, L x) : ExR K L' io' H' x fs := by
  obtain ⟨a, vs, h1, h2, h3, h4⟩ := h
  obtain ⟨k1, k2⟩ := (s.on sub).2 a _ h3 h2
  exact ⟨a, vs, h1, k2, k1, h4.mono fun v d r => r.step s sub⟩
def RdH {α β : Type} (K : PySem.W.Frag) (R : (Addr → Prop) → List Addr → Hp → β → α → Prop) (i : Nat) (a : Addr) (cls : Value) (d : Option Addr) (h : HR α) : L2.St → Hp → (β → Hp → Prop) → Prop := fun σ H Q =>
  ∃ (c : Str) (fs : List (Str × Dv)) (L0 : Addr → Prop) (io0 : List Addr) (H0 : Hp) (L : Addr → Prop) (io : List Addr) (e : Env) (S : Sto), cls = .ref (He.ga K c) ∧ FR K L0 io0 H0 L io H σ e S ∧ σ[i]? = some (some (.ref a)) ∧ ExR K L io H d fs ∧ Fin K (fun _ _ _ _ => False) R σ L io H Q (h c fs e S)
theorem RdH.bind {α β α' β' : Type} {K : PySem.W.Frag} {R : (Addr → Prop) → List Addr → Hp → β → α → Prop} {R' : (Addr → Prop) → List Addr → Hp → β' → α' → Prop} {i : Nat} {a : Addr} {cls : Value} {d : Option Addr} {h : HR α} {k : Str → List (Str × Dv) → Env → α → Sto → Res α'} {σ : L2.St} {H : Hp} {Q : β' → Hp → Prop} {P : β → Hp → Prop}
    (q : RdH K R' i a cls d (fun c fs e S => bnd (h c fs e S) (k c fs e)) σ H Q)
    (n : ∀ (c : Str) (fs : List (Str × Dv)) (L0 : Addr → Prop) (io0 : List Addr) (H0 : Hp) (L : Addr → Prop) (io : List Addr) (H1 : Hp) (e : Env) (S : Sto) (x : α) (v : β), cls = .ref (He.ga K c) → FR K L0 io0 H0 L io H1 σ e S → σ[i]? = some (some (.ref a)) → ExR K L io H1 d fs → R L io H1 v x → Fin K (fun _ _ _ _ => False) R' σ L io H1 Q (k c fs e x S) → P v H1) : RdH K R i a cls d h σ H P := by
  obtain ⟨c, fs, L0, io0, H0, L, io, e, S, hc, fr, si, ex, q0⟩ := q
  have q : Fin K (fun _ _ _ _ => False) R' σ L io H Q (bnd (h c fs e S) (k c fs e)) := q0
  refine ⟨c, fs, L0, io0, H0, L, io, e, S, hc, fr, si, ex, ?_⟩
  cases hh : h c fs e S with
  | ok x S1 =>
    rw [hh] at q
    intro v H1 L1 io1 s1 sr1 r1
    exact n c fs L0 io0 H0 L1 io1 H1 e S1 x v hc (fr.step s1 sr1) si (ex.step s1 fr.st.sub) r1 (Fin.later q s1 fr.st.sub)
  | ex c' fs' S1 => rw [hh] at q; exact q
  | no => rw [hh] at q; exact q
section
variable {X : Cx} {i : Nat} {e a b c : Expr} {es : List Expr} {pos : Pos} {h h1 h2 : HR Dv} {ha : HR (List Dv)} {ht : HR Bool}
/-- the classes' facts -/
def XcT (K : PySem.W.Frag) (tab : List (Str × List Str)) : Prop := ∀ c ns, tab.lookup c = some ns → XcF K (He.ga K c) (He.ma K (He.ga K c) "__init__") ns
theorem pairR_look {K : PySem.W.Frag} {L : Addr → Prop} {io : List Addr} {H : Hp} {f : Str} {d : Dv} : ∀ {vs : List (Str × V)} {fs : List (Str × Dv)}, PairR (VR K L io H) vs fs → fs.lookup f = some d → ∃ v, vs.lookup f = some v ∧ VR K L io H v d
  | _, _, .nil, h => by simp at h
  | (n, v) :: vs, (m, d') :: fs, .cons r t, h => by
    have e : n = m := r.1
    subst e
    rw [List.lookup_cons] at h ⊢
    cases hb : f == n with
    | true => rw [hb] at h; cases h; exact ⟨v, rfl, r.2⟩
    | false => rw [hb] at h; exact pairR_look t h
end
end DL
namespace DL
open PySem L2
theorem mem_lookupA {α : Type} {k : Str} {d : α} : ∀ {l : List (Str × α)}, l.lookup k = some d → (k, d) ∈ l
  | [], h => by simp at h
  | (k', d') :: l, h => by
    rw [List.lookup_cons] at h
    cases e : k == k' with
    | true =>
      rw [e] at h
      cases h
      rw [beq_iff_eq.mp e]
      exact List.mem_cons_self
    | false => rw [e] at h; exact List.mem_cons_of_mem _ (mem_lookupA h)
def xtB (tab : List (Str × List Str)) : Ft := .any fun K => tab.all fun q => (xcB q.1 q.2).ok K
theorem xt_f {K : PySem.W.Frag} {tab : List (Str × List Str)} (h : (xtB tab).ok K = true) : XcT K tab := fun c ns hl => xc_f (List.all_eq_true.mp (show (tab.all fun q => (xcB q.1 q.2).ok K) = true from h) (c, ns) (mem_lookupA hl))
def powD : Dv → Dv → Option Dv := iop fun i j => if 0 ≤ j ∧ j ≤ 1000000 ∧ i.natAbs < 2 ^ 64 then some (.int (i ^ j.toNat)) else none
theorem qe_pow {X : Cx} {W : WX} {pos : Pos} {a b : Expr} {f1 f2 : DE} (ha : QX X W a f1) (hb : QX X W b f2) : QE X W (.BinOp a .Pow b pos) (eBin (pu2 powD) f1 f2) := qe_op op_pow (ops_int fun i j d e => by
  split at e
  · rename_i h; cases e; exact ⟨h, fun _ _ _ => .int _⟩
  · cases e) ha hb
section
variable (S S' : Sto) (e e' : Env) (d : Dv) (l : List Dv) (c f : Str) (fs : List (Str × Dv)) (ns : List Str) (fa : DA) (g : DF) (i : Nat) (b : Bool) (body : DS) (h : HR Dv) (sub : List (Str × Bool))
def kRs (g : DF) (c : Str) (ns : List Str) (e : Env) : Res (List Dv) → Out
  | .ok l S1 => kRaise g c ns e l S1
  | _ => .no
@[simp] theorem ev_raise : sRaise g c ns fa e S = kRs g c ns e (fa e S) := by unfold sRaise kRs; cases fa e S <;> rfl
@[simp] theorem kRs_ok : kRs g c ns e (.ok l S) = kRaise g c ns e l S := rfl
end
end DL
namespace DL
open PySem L2
section
variable {X : Cx} {W : WX} {pos pos' : Pos} {o i a : Expr} {f f1 f2 fv fo fi : DE} {kk : Nat} {x : Str}
/-- d a handle -/
def dputH (S : Sto) (o i v : Dv) : Option Sto := match o with
  | .hdl k => (match S[k]? with
    | some (.dct l) => (keyD i).bind fun k' => if l.length < sizeLine then some (S.set k (.dct (putD l k' v))) else none
    | _ => none)
  | _ => none
def sDPutH (fo fi fv : DE) : DS := sBind fv fun e v S1 => sBind fo (fun e o S2 => sBind fi (fun e i S3 => match dputH S3 o i v with
  | some S4 => .nx e S4
  | none => .no) e S2) e S1
theorem qs_dputH (hr : Room kk X.A) (ho : QE X W o fo) (hi : QE X W i fi) (hv : QE X W a fv) (hs : swapsWith a (some (.Subscript o i pos')) pos.line X.env = pure false := by rfl) : QS X W (.Assign [.Subscript o i pos'] a pos) (sDPutH fo fi fv) := ps_imp (ps_dput (hu_of hr) ho hi hv hs) fun D g H h => by
  refine rds_bind (R := VR X.K) (k := fun e v S1 => sBind fo (fun e o S2 => sBind fi (fun e i S3 => match dputH S3 o i v with
    | some S4 => .nx e S4
    | none => .no) e S2) e S1) h fun L0 io0 H0 L io H1 e S v vv fr rv q => ?_
  refine outR.bind (R := VR X.K) (k := fun e o S2 => sBind fi (fun e i S3 => match dputH S3 o i v with
    | some S4 => .nx e S4
    | none => .no) e S2) fr q fun L2 io2 H2 S2 od ov s2 fr2 ro q2 => ?_
  refine outR.bind (R := VR X.K) (k := fun e i S3 => match dputH S3 od i v with
    | some S4 => .nx e S4
    | none => .no) fr2 q2 fun L3 io3 H3 S3 id iv s3 fr3 ri q3 => ?_
  have ro3 := ro.step s3 fr2.st.sub
  have rv3 := (rv.step s2 fr.st.sub).step s3 fr2.st.sub
  unfold dputH at q3
  cases od with
  | hdl k =>
    cases ro3 with
    | hdl hk =>
      rename_i p
      cases hS : S3[k]? with
      | none => simp only [hS] at q3; exact q3.elim
      | some ob =>
        cases ob with
        | dct l =>
          simp only [hS] at q3
          cases h2 : keyD id with
          | none => rw [h2] at q3; exact q3.elim
          | some k' =>
            rw [h2] at q3
            simp only [Option.bind_some] at q3
            by_cases hl : l.length < sizeLine
            · rw [if_pos hl] at q3
              simp only at q3
              obtain ⟨kvs, e1, r1⟩ := fr3.st.obj k p _ hk hS
              have ma : p ∈ io3 := List.mem_of_getElem? hk
              refine ⟨p, upd H3 p (.dK (putK kvs k' vv)), rfl, ?_, ?_⟩
              · rw [keyD_ok ri h2]
                exact DPut.k e1 (by rw [PairR.len r1]; exact hl)
              · have s4 : Stp L3 io3 H3 L3 io3 (upd H3 p (.dK (putK kvs k' vv))) := Stp.mutH ma
                exact q3 g _ L3 io3 (s4.stw fr3.st.sub) (fr3.step s4 (fr3.st.setH hk ⟨_, upd_same, (PairR.put r1 rv3).mono fun v d r => r.mut (fr3.st.sub p ma)⟩))
            · rw [if_neg hl] at q3; exact q3.elim
        | _ => simp only [hS] at q3; exact q3.elim
  | _ => exact q3.elim
def dcopK (l : List Dv) (S : Sto) : Res (List (Key × Dv)) := match l with
  | [d] => (match asD S d with
    | some m => .ok m S
    | none => .no)
  | _ => .no
def dCopy (fa : DA) : DD := fun e S => bnd (fa e S) dcopK
end
end DL
namespace DL
open PySem PySem.Spec PyProof.Rows L2
def kCallP (c : Str) (g : DF) (d : Dv) (as : List Dv) (S : Sto) : Res Dv := match insOf S d with
  | some (c', _) => if c' = c then g S (d :: as) else .no
  | none => .no
def kCallO (c : Str) (g : DF) (fa : DA) (e : Env) (d : Dv) (S : Sto) : Res Dv := match insOf S d with
  | some (c', _) => if c' = c then bnd (fa e S) (kCallP c g d) else .no
  | none => .no
def eCallO (c : Str) (g : DF) (i : Nat) (fa : DA) : DE := fun e S => bnd (eVar i e S) (kCallO c g fa e)
def augF (op : Dv → Dv → Option Dv) (c f : Str) (k : Nat) (x : Dv) (e : Env) (y : Dv) (S : Sto) : Out := match op x y with
  | some z => (match setF c f S (.hdl k) z with
    | some S2 => .nx e S2
    | none => .no)
  | none => .no
def kAugF (op : Dv → Dv → Option Dv) (c f : Str) (fv : DE) (e : Env) (o : Dv) (S : Sto) : Out := match o with
  | .hdl k => (match S[k]? with
    | some (.ins c' fs) => if c' = c then (match fs.lookup f with
      | some x => sBind fv (augF op c f k x) e S
      | none => .no) else .no
    | _ => .no)
  | _ => .no
def sAugF (op : Dv → Dv → Option Dv) (c f : Str) (fo fv : DE) : DS := sBind fo (kAugF op c f fv)
section
variable (S S' : Sto) (e e' : Env) (d d1 d2 : Dv) (l : List Dv) (m : List (Key × Dv)) (c f : Str) (fs : List (Str × Dv)) (fa : DA) (g : DF) (i k : Nat) (fv fi fo f1 : DE)
@[simp] theorem ev_callO : eCallO c g i fa e S = bnd (kVar S (e[i]?)) (kCallO c g fa e) := rfl
@[simp] theorem ev_augF (op : Dv → Dv → Option Dv) : sAugF op c f fo fv e S = kS (kAugF op c f fv) e (fo e S) := ev_sbind ..
@[simp] theorem ev_dCopy : dCopy fa e S = bnd (fa e S) dcopK := rfl
@[simp] theorem dcopK_dic : dcopK [.dic m] S = .ok m S := rfl
end
end DL
namespace DL
open PySem L2
def rngK1 (d : Dv) (S : Sto) : Res (List Dv) := match d with
  | .int n => if 0 ≤ n ∧ n ≤ 16777216 then .ok (rngD 0 n.toNat) S else .no
  | _ => .no
def fRng (f : DE) : DL := fun e S => bnd (f e S) rngK1
def kRevL (d : Dv) (S : Sto) : Res (List Dv) := match asL S d with
  | some l => .ok l.reverse S
  | none => .no
def fRevL (f : DE) : DL := fun e S => bnd (f e S) kRevL
def kRepL (a : List Dv) (d : Dv) (S : Sto) : Res (List Dv) := match d with
  | .int k => if -(2 ^ 63) ≤ k ∧ k < 2 ^ 63 ∧ a.length * k.toNat ≤ sizeLine then .ok (List.replicate k.toNat a).flatten S else .no
  | _ => .no
def kRepA (f2 : DE) (e : Env) (d : Dv) (S : Sto) : Res (List Dv) := match d with
  | .lst l => bnd (f2 e S) (kRepL l)
  | _ => .no
def fRep (f1 f2 : DE) : DL := fun e S => bnd (f1 e S) (kRepA f2 e)
section
variable (S : Sto) (e : Env) (l : List Dv) (f f1 f2 : DE)
@[simp] theorem ev_fRng : fRng f e S = bnd (f e S) rngK1 := rfl
@[simp] theorem ev_fRevL : fRevL f e S = bnd (f e S) kRevL := rfl
@[simp] theorem kRevL_lst : kRevL (.lst l) S = .ok l.reverse S := rfl
@[simp] theorem ev_fRep : fRep f1 f2 e S = bnd (f1 e S) (kRepA f2 e) := rfl
@[simp] theorem kRepA_lst : kRepA f2 e (.lst l) S = bnd (f2 e S) (kRepL l) := rfl
end
end DL
namespace DL
open PySem L2
end DL
namespace DL
open PySem L2
end DL
namespace DL
open PySem L2
end DL
namespace DL
open PySem L2
def frzN : Nat → Sto → Dv → Dv
  | n + 1, S, .hdl k => (match S[k]? with
    | some (.lst l) => .lst (l.map (frzN n S))
    | some (.dct l) => .dic (l.map fun q => (q.1, frzN n S q.2))
    | some (.ins c fs) => .obj c (fs.map fun q => (q.1, frzN n S q.2))
    | _ => .hdl k)
  | _, _, d => d
abbrev L00 : Addr → Prop := fun _ => False
section
variable {K : PySem.W.Frag} {L : Addr → Prop} {io : List Addr} {H : Hp} {S : Sto}
theorem noh_all {v : V} {d : Dv} (r : VR K L io H v d) (h : noH d = true) : VR K L00 [] H v d := VR.noh (fun a o e _ => ⟨e, fun z => z⟩) r h
theorem frzs_ok (n : Nat) (ih : ∀ (d : Dv) (v : V), VR K L io H v d → noH (frzN n S d) = true → VR K L00 [] H v (frzN n S d)) : ∀ (l : List Dv) (vs : List V), VRs K L io H vs l → noHs (l.map (frzN n S)) = true → VRs K L00 [] H vs (l.map (frzN n S))
  | [], _, .nil, _ => .nil
  | d :: l, _, .cons h t, e => by
    simp only [List.map_cons, noHs, Bool.and_eq_true] at e
    exact .cons (ih d _ h e.1) (frzs_ok n ih l _ t e.2)
theorem frzp_ok (n : Nat) (ih : ∀ (d : Dv) (v : V), VR K L io H v d → noH (frzN n S d) = true → VR K L00 [] H v (frzN n S d)) : ∀ (l : List (Key × Dv)) (vs : List (Key × V)), PairR (VR K L io H) vs l → noHp (l.map fun q => (q.1, frzN n S q.2)) = true → PairR (VR K L00 [] H) vs (l.map fun q => (q.1, frzN n S q.2))
  | [], _, .nil, _ => .nil
  | (k2, d) :: l, (k1, v) :: vs, .cons ⟨h1, h2⟩ t, e => by
    simp only [List.map_cons, noHp, Bool.and_eq_true] at e
    exact .cons ⟨h1, ih d v h2 e.1⟩ (frzp_ok n ih l vs t e.2)
theorem frzf_ok (n : Nat) (ih : ∀ (d : Dv) (v : V), VR K L io H v d → noH (frzN n S d) = true → VR K L00 [] H v (frzN n S d)) : ∀ (l : List (Str × Dv)) (vs : List (Str × V)), PairR (VR K L io H) vs l → noHf (l.map fun q => (q.1, frzN n S q.2)) = true → PairR (VR K L00 [] H) vs (l.map fun q => (q.1, frzN n S q.2))
  | [], _, .nil, _ => .nil
  | (k2, d) :: l, (k1, v) :: vs, .cons ⟨h1, h2⟩ t, e => by
    simp only [List.map_cons, noHf, Bool.and_eq_true] at e
    exact .cons ⟨h1, ih d v h2 e.1⟩ (frzf_ok n ih l vs t e.2)
theorem frzN_ok (sr : SR K L io H S) : ∀ (n : Nat) (d : Dv) (v : V), VR K L io H v d → noH (frzN n S d) = true → VR K L00 [] H v (frzN n S d)
  | 0, d, v, r, e => by
    cases d <;> exact noh_all r e
  | n + 1, .hdl k, v, r, e => by
    cases r with
    | hdl hk =>
      rename_i a
      cases q : S[k]? with
      | none => simp only [frzN, q, noH] at e; cases e
      | some o =>
        cases o with
        | lst l =>
          simp only [frzN, q, noH] at e ⊢
          obtain ⟨xs, h, t⟩ := sr.obj k a _ hk q
          exact .lst (fun z => z) h (frzs_ok n (frzN_ok sr n) l xs t e)
        | dct l =>
          simp only [frzN, q, noH] at e ⊢
          obtain ⟨xs, h, t⟩ := sr.obj k a _ hk q
          exact .dic (fun z => z) (.inl h) (frzp_ok n (frzN_ok sr n) l xs t e).vrp
        | ins c fs =>
          simp only [frzN, q, noH] at e ⊢
          obtain ⟨dx, xs, h, t⟩ := sr.obj k a _ hk q
          exact .obj (fun z => z) h (vrf_of (frzf_ok n (frzN_ok sr n) fs xs t e))
        | ext => simp only [frzN, q, noH] at e; cases e
  | n + 1, .non, v, r, e => noh_all r e
  | n + 1, .bl _, v, r, e => noh_all r e
  | n + 1, .int _, v, r, e => noh_all r e
  | n + 1, .str _, v, r, e => noh_all r e
  | n + 1, .tup _, v, r, e => noh_all r e
  | n + 1, .lst _, v, r, e => noh_all r e
  | n + 1, .rol _, v, r, e => noh_all r e
  | n + 1, .dic _, v, r, e => noh_all r e
  | n + 1, .obj _ _, v, r, e => noh_all r e
  | n + 1, .glo _, v, r, e => noh_all r e
  | n + 1, .ty _, v, r, e => noh_all r e
  | n + 1, .ext _ _ _ _, v, r, e => noh_all r e
/-- dicts are locked -/
theorem VR.lock {H' : Hp} (hl : ∀ b o, H b = some o → H' b = some o ∨ ∃ kvs od, o = .dK kvs ∧ H' b = some (.frz od o)) {v : V} {d : Dv} (h : VR K L00 [] H v d) : VR K L00 [] H' v d := by
  have rdl : ∀ {a : Addr} {xs : List V}, Rd H a (.lst xs) → Rd H' a (.lst xs) := fun {a xs} r => by
    rcases r with r | ⟨o, r⟩
    · rcases hl a _ r with z | ⟨kvs, od, z, _⟩
      · exact .inl z
      · cases z
    · rcases hl a _ r with z | ⟨kvs, od, z, _⟩
      · exact .inr ⟨o, z⟩
      · cases z
  have rdd : ∀ {a : Addr} {kvs : List (Key × V)}, Rd H a (.dK kvs) → Rd H' a (.dK kvs) := fun {a kvs} r => by
    rcases r with r | ⟨o, r⟩
    · rcases hl a _ r with z | ⟨kvs, od, z, z2⟩
      · exact .inl z
      · exact .inr ⟨od, z2⟩
    · rcases hl a _ r with z | ⟨kvs, od, z, _⟩
      · exact .inr ⟨o, z⟩
      · cases z
  refine VR.rec (motive_1 := fun v d _ => VR K L00 [] H' v d) (motive_2 := fun vs ds _ => VRs K L00 [] H' vs ds) (motive_3 := fun vs ds _ => VRp K L00 [] H' vs ds) (motive_4 := fun vs ds _ => VRf K L00 [] H' vs ds) ?_ ?_ ?_ ?_ ?_ ?_ ?_ ?_ ?_ ?_ ?_ ?_ ?_ ?_ ?_ ?_ ?_ ?_ ?_ ?_ ?_ h
  · exact .non
  · exact fun b => .bl b
  · exact fun i => .int i
  · exact fun x => .str x
  · intro a xs ds nl e _ ih
    rcases hl a _ e with z | ⟨kvs, od, z, _⟩
    · exact .tup nl z ih
    · cases z
  · exact fun h _ ih => .tupK h ih
  · intro a xs ds nl e _ ih
    rcases hl a _ e with z | ⟨kvs, od, z, _⟩
    · exact .lst nl z ih
    · cases z
  · intro a xs ds nl r _ ih
    exact .rol nl (rdl r) ih
  · exact fun h _ ih => .rolK h ih
  · intro a xs ds nl r _ ih
    exact .dic nl (rdd r) ih
  · intro a dx c vs fs nl e _ ih
    rcases hl a _ e with z | ⟨kvs, od, z, _⟩
    · exact .obj nl z ih
    · cases z
  · exact fun h => .hdl h
  · exact fun x => .glo x
  · exact fun n => .ty n
  · intro a t c ns vs ds os h0 hk ho _ ih
    refine .ext h0 hk (fun p hp => ⟨fun z => z, ?_⟩) ih
    rcases hl _ _ (ho p hp).2 with z | ⟨kvs, od, z, _⟩
    · exact z
    · exact absurd z (hk.nodk p hp kvs)
  · exact .nil
  · exact fun _ _ h1 h2 => .cons h1 h2
  · exact .nil
  · exact fun _ _ h1 h2 => .cons h1 h2
  · exact .nil
  · exact fun _ _ h1 h2 => .cons h1 h2
def vwS (S : Sto) : Sl → Sl
  | .va d => if noH (frzN 4 S d) = true then .va (frzN 4 S d) else .no
  | _ => .no
def vwE (S : Sto) (e : Env) : Env := e.map (vwS S)
theorem sr00 (H : Hp) : SR K L00 [] H [] where
  len := rfl
  nd := List.nodup_nil
  sub := fun _ h => by simp at h
  dom := fun _ h => h.elim
  obj := fun k a o h => by simp at h
/-- the view's frame, dicts locked or not -/
theorem FR.view {L0 : Addr → Prop} {io0 : List Addr} {H0 H' : Hp} {g : St} {e : Env} (fr : FR K L0 io0 H0 L io H g e S) (hl : ∀ b o, H b = some o → H' b = some o ∨ ∃ kvs od, o = .dK kvs ∧ H' b = some (.frz od o)) : FR K L00 [] H' L00 [] H' g (vwE S e) [] where
  st := sr00 H'
  len := by simp only [vwE, List.length_map]; exact fr.len
  va := fun i d h => by
    simp only [vwE, List.getElem?_map] at h
    cases he : e[i]? with
    | none => rw [he] at h; cases h
    | some sl =>
      rw [he] at h
      cases sl with
      | va d' =>
        simp only [Option.map_some, vwS] at h
        split at h
        · rename_i hn
          cases h
          obtain ⟨v, h1, h2⟩ := fr.va i d' he
          exact ⟨v, h1, VR.lock hl (frzN_ok fr.st 4 d' v h2 hn)⟩
        · cases h
      | no => cases h
      | own o => cases h
  own := fun i o h => by
    simp only [vwE, List.getElem?_map] at h
    cases he : e[i]? with
    | none => rw [he] at h; cases h
    | some sl =>
      rw [he] at h
      cases sl with
      | va d' =>
        simp only [Option.map_some, vwS] at h
        split at h <;> cases h
      | no => cases h
      | own o => cases h
  inj := fun i j p _ v1 _ v2 _ hg _ => by
    simp only [vwE, List.getElem?_map] at v1 v2
    cases he : e[i]? with
    | none =>
      have : g[i]? = none := by
        rw [List.getElem?_eq_none_iff] at he ⊢
        rw [fr.len]; exact he
      rw [this] at hg
      cases hg
    | some sl =>
      rw [he] at v1 v2
      cases sl with
      | va d' =>
        simp only [Option.map_some, vwS] at v1 v2
        split at v1
        · exact v1 _ rfl
        · rename_i hn; rw [if_neg hn] at v2; exact v2 rfl
      | no => exact v2 rfl
      | own o => exact v2 rfl
  en := Stp.refl ..
  sub0 := fun _ h => by simp at h
  dom0 := fun _ h => h.elim
end
end DL
namespace DL
open PySem L2
section
variable {K : PySem.W.Frag} {L0 L : Addr → Prop} {io0 io : List Addr} {H0 H : Hp} {g g' : St} {e : Env} {S : Sto}
theorem FR.same (fr : FR K L0 io0 H0 L io H g e S) (hl : g'.length = g.length) (h : ∀ i : Nat, (∃ s : Sl, e[i]? = some s ∧ s ≠ Sl.no) → g'[i]? = g[i]?) : FR K L0 io0 H0 L io H g' e S where
  st := fr.st
  len := hl.trans fr.len
  va := fun i d he => by
    obtain ⟨v, h1, h2⟩ := fr.va i d he
    exact ⟨v, (h i ⟨_, he, fun z => nomatch z⟩).trans h1, h2⟩
  own := fun i o he => by
    obtain ⟨p, h1, h2⟩ := fr.own i o he
    exact ⟨p, (h i ⟨_, he, fun z => nomatch z⟩).trans h1, h2⟩
  inj := fun i j p hij v1 v2 n1 n2 hi hj => by
    have iin : ∀ k : Nat, e[k]? ≠ some Sl.no → g'[k]? = some (some (V.ref p)) → g'[k]? = g[k]? := fun k hk hgk => by
      cases hek : e[k]? with
      | none =>
        have : e.length ≤ k := List.getElem?_eq_none_iff.mp hek
        have h2 : g'[k]? = none := List.getElem?_eq_none_iff.mpr (by rw [hl, fr.len]; exact this)
        rw [h2] at hgk; cases hgk
      | some s => exact h k ⟨s, hek, fun z => hk (by rw [hek, z])⟩
    exact fr.inj i j p hij v1 v2 n1 n2 ((iin i n1 hi).symm.trans hi) ((iin j n2 hj).symm.trans hj)
  en := fr.en
  sub0 := fr.sub0
  dom0 := fr.dom0
end
def gL (gs : DGs) : DG := fun d e => (asF d).bind fun l => gs l e
@[simp] theorem ev_gL (gs : DGs) (l : List Dv) (e : Env) : gL gs (.lst l) e = gs l e := rfl
end DL
namespace DL
open PySem L2 PySem.Spec PyProof.Rows
end DL
namespace DL
open PySem L2
end DL
namespace DL
open PySem L2
end DL
namespace DL
open PySem L2
end DL
namespace SrtF
open PySem PySem.Spec PyProof.Rows L2
structure KeepF (fs : List Addr) (h h' : Heap) : Prop where
  k : ∀ b o, h.get? b = some o → b ∉ fs → h'.get? b = some o
  f : ∀ b o, h.get? b = some o → b ∈ fs → ∃ sl, h'.get? b = some { o with slots := sl }
section
variable {fs : List Addr} {h h' h2 : Heap} {H : Hp} {P : Program} {w : World}
theorem KeepF.of (k : ∀ b o, h.get? b = some o → h'.get? b = some o) : KeepF fs h h' := ⟨fun b o e _ => k b o e, fun b o e _ => ⟨o.slots, k b o e⟩⟩
theorem KeepF.trans (a : KeepF fs h h') (b : KeepF fs h' h2) : KeepF fs h h2 := ⟨fun x o e n => b.k x o (a.k x o e n) n, fun x o e n => by
  obtain ⟨sl, e1⟩ := a.f x o e n
  obtain ⟨sl2, e2⟩ := b.f x _ e1 n
  exact ⟨sl2, e2⟩⟩
theorem KeepF.there (a : KeepF fs h h') {b : Addr} {o : Obj} (e : h.get? b = some o) : ∃ o', h'.get? b = some o' := by
  by_cases hb : b ∈ fs
  · obtain ⟨sl, e1⟩ := a.f b o e hb
    exact ⟨_, e1⟩
  · exact ⟨o, a.k b o e hb⟩
theorem KeepF.un (a : KeepF fs h h') : Un fs [] H H h h' :=
  ⟨fun b o e _ nf _ => a.k b o e nf, fun b o e _ hf _ => a.f b o e hf, fun _ _ _ n _ => n, fun b o e _ => a.there e, fun _ _ q => q, fun _ _ _ q => q, fun _ ps q => ⟨#[], by rw [q]; simp⟩⟩
theorem obj_there {c : Addr} {o : HO} (x : ObjOk P w H h c o) : ∃ u, h.get? c = some u := by
  cases o with
  | lst xs => obtain ⟨_, _, _, _, e⟩ := x; exact ⟨_, e⟩
  | tup xs => obtain ⟨_, _, _, o, e, _⟩ := x; exact ⟨_, e⟩
  | dK kvs => obtain ⟨_, _, _, _, o, _, _, e, _⟩ := x; exact ⟨_, e⟩
  | dT kvs => obtain ⟨_, _, _, _, o, _, _, e, _⟩ := x; exact ⟨_, e⟩
  | set S n => obtain ⟨o, _, _, _, e, _⟩ := x; exact ⟨_, e⟩
  | ins C dx fs => obtain ⟨_, _, _, e, _⟩ := x; exact ⟨_, e⟩
  | own y => obtain ⟨_, e⟩ := x; exact ⟨_, e⟩
  | xd fs => obtain ⟨_, ⟨_, _, _, e, _⟩, _⟩ := x; exact ⟨_, e⟩
  | rng lo hi => obtain ⟨_, _, _, e⟩ := x; exact ⟨_, e⟩
  | frz ob u => obtain ⟨e, _⟩ := x; exact ⟨_, e⟩
  | tbl ps => exact ⟨_, show h.get? c = some _ from x⟩
  | met f y => exact ⟨_, show h.get? c = some _ from x⟩
  | ext φ => obtain ⟨_, ⟨_, e⟩, _⟩ := x; exact ⟨_, e⟩
theorem KeepF.hok (a : KeepF fs h h') (x : HOk P w H h) (hf : ∀ b ∈ fs, H b = none) : HOk P w H h' := fun c o e =>
  (x c o e).stay (fun b u hb q => a.k b u q fun z => by
    have := hf b z
    rcases hb with rfl | hb
    · rw [this] at e; cases e
    · rw [this] at hb; cases hb) (fun _ q => q) fun _ _ q => q
end
section
variable {X : Cx} {pins : List (Addr × Obj)} {σ : L2.St} {H : Hp} {s s' : Shared}
theorem fresh_of {p : Addr} (I : Inv X pins σ H s) (ne : ∀ b u, s.heap.get? b = some u → b ≠ p) : H p = none := by
  cases e : H p with
  | none => rfl
  | some u =>
    obtain ⟨o, h⟩ := obj_there (I.hok p u e)
    exact (ne p o h rfl).elim
/-- a new object is told behind it -/
theorem KeepF.laid {p : Addr} {o : HO} (a : KeepF (frs X.stack) s.heap s'.heap) (I : Inv X pins σ H s) (ho : s'.os = s.os) (hg : AllBare s'.gens) (ne : ∀ b u, s.heap.get? b = some u → b ≠ p) (new : ObjOk X.prog X.w (upd H p o) s'.heap p o) : Inv X pins σ (upd H p o) s' := by
  have hn : H p = none := fresh_of I ne
  have ne2 : ∀ b u, H b = some u → b ≠ p := fun b u e z => by rw [z, hn] at e; cases e
  refine I.call' (ch := []) ho ⟨fun b u e _ nf _ => a.k b u e nf, fun b u e _ hf _ => a.f b u e hf, fun b u e n _ => by rw [upd_ne (ne b u e)]; exact n, fun b u e _ => a.there e, fun b xs q => by rw [upd_ne (ne2 b _ q)]; exact q, fun b _ _ q => by rw [upd_ne (ne2 b _ q)]; exact q, fun b ps q => ⟨#[], by rw [upd_ne (ne2 b _ q), q]; simp⟩⟩ (fun c u e => ?_) hg fun b z => nomatch z
  by_cases hc : c = p
  · subst hc
    rw [upd_same] at e
    cases e
    exact new
  · rw [upd_ne hc] at e
    exact (I.hok c u e).stay (fun b v hb q => a.k b v q fun z => by
      have := I.stkFree b z
      rcases hb with rfl | hb
      · rw [this] at e; cases e
      · rw [this] at hb; cases hb) (fun b q => by rw [upd_ne (ne2 b _ q)]; exact q) fun b xs q => by rw [upd_ne (ne2 b _ q)]; exact q
end
end SrtF
namespace DL
open PySem L2
end DL
namespace DL
open PySem L2
def fmtK (d : Dv) (S : Sto) : Res Dv := match d with
  | .str y => if y.length ≤ sizeLine then .ok (.str y) S else .no
  | .int i => if i.natAbs.log2 < 1920 then .ok (.str (toString i)) S else .no
  | _ => .no
def eFmt (f : DE) : DE := fun e S => bnd (f e S) fmtK
@[simp] theorem ev_fmt (f : DE) (e : Env) (S : Sto) : eFmt f e S = bnd (f e S) fmtK := rfl
def jsK (acc : Str) (k : Str → Env → Sto → Res Dv) (e : Env) (d : Dv) (S : Sto) : Res Dv := match d with
  | .str y => if (acc ++ y).length ≤ sizeLine then k (acc ++ y) e S else .no
  | _ => .no
def jsR : List DE → Str → Env → Sto → Res Dv
  | [], acc, _, S => .ok (.str acc) S
  | f :: fs, acc, e, S => bnd (f e S) (jsK acc (jsR fs) e)
def eJoi (fs : List DE) : DE := jsR fs Str.empty
@[simp] theorem ev_joi (fs : List DE) (e : Env) (S : Sto) : eJoi fs e S = jsR fs Str.empty e S := rfl
@[simp] theorem ev_js0 (acc : Str) (e : Env) (S : Sto) : jsR [] acc e S = .ok (.str acc) S := rfl
@[simp] theorem ev_js1 (f : DE) (fs : List DE) (acc : Str) (e : Env) (S : Sto) : jsR (f :: fs) acc e S = bnd (f e S) (jsK acc (jsR fs) e) := rfl
end DL
namespace DL
open PySem L2
theorem call_int2 {X : Cx} : CallR X (.type "int") (fun xs H Q => ((∃ i, xs = [.int i] ∧ Q (.int i) H) ∨ ∃ k, xs = [.bl k] ∧ Q (.int (if k then 1 else 0)) H) ∨ ∃ a n, xs = [.str a] ∧ PySem.intText? a = some n ∧ a.length ≤ 640 ∧ Q (.int n) H) := by
  intro pins s σ H xs us Q I r h
  rcases h with h | h
  · exact call_int1 pins s σ H xs us Q I r h
  · exact call_int_str pins s σ H xs us Q I r h
def intD2 (S : Sto) : List Dv → Option (Dv × Sto)
  | [.int i] => some (.int i, S)
  | [.bl b] => some (.int (if b then 1 else 0), S)
  | [.str x] => match PySem.intText? x with
    | some n => if x.length ≤ 640 then some (.int n, S) else none
    | none => none
  | _ => none
@[simp] theorem int2_int (S : Sto) (p : Int) : intD2 S [.int p] = some (.int p, S) := rfl
@[simp] theorem int2_bl (S : Sto) (b : Bool) : intD2 S [.bl b] = some (.int (if b then 1 else 0), S) := rfl
theorem cas_int2 {K : PySem.W.Frag} : CaS K (fun xs H Q => ((∃ i, xs = [.int i] ∧ Q (.int i) H) ∨ ∃ k, xs = [.bl k] ∧ Q (.int (if k then 1 else 0)) H) ∨ ∃ a n, xs = [.str a] ∧ PySem.intText? a = some n ∧ a.length ≤ 640 ∧ Q (.int n) H) intD2 := by
  intro L io H S xs l d S' Q sr rv e q
  unfold intD2 at e
  split at e
  · rename_i i
    cases e
    cases rv with
    | cons r t =>
      cases t
      have r := r.vr rfl
      cases r
      exact .inl (.inl ⟨_, rfl, q _ H L io (Stp.refl ..) sr (.int _)⟩)
  · rename_i b
    cases e
    cases rv with
    | cons r t =>
      cases t
      have r := r.vr rfl
      cases r
      exact .inl (.inr ⟨_, rfl, q _ H L io (Stp.refl ..) sr (.int _)⟩)
  · rename_i x
    split at e
    · rename_i n hn
      split at e
      · rename_i hl
        cases e
        cases rv with
        | cons r t =>
          cases t
          have r := r.vr rfl
          cases r
          exact .inr ⟨x, n, rfl, hn, hl, q _ H L io (Stp.refl ..) sr (.int _)⟩
      · cases e
    · cases e
  · cases e
end DL
namespace DL
open PySem PySem.Spec PyProof.Rows L2
def whK (s : DS) (again : Env → Sto → Out) (e : Env) (b : Bool) (S : Sto) : Out := if b then (match s e S with
  | .nx e' S' => again e' S'
  | .ct e' S' => again e' S'
  | .bk e' S' => .nx e' S'
  | o => o) else .nx e S
def whR (t : DT) (s : DS) : Nat → DS
  | 0 => fun _ _ => .no
  | n + 1 => sBind t (whK s (whR t s n))
@[simp] theorem whR_succ (n : Nat) (t : DT) (s : DS) (e : Env) (S : Sto) : whR t s (n + 1) e S = kS (whK s (whR t s n)) e (t e S) := ev_sbind ..
abbrev HCl := Nat × List (Str × Bool) × HR Dv
/-- one clause after the other -/
def takeH : List HCl → Str → List (Str × Dv) → Env → Sto → Out
  | [], c, fs, e, S => .ex c fs e S
  | (i, sub, h) :: r, c, fs, e, S => match sub.lookup c with
    | some true => if i < e.length then (match h c fs (e.set i .no) S with
      | .ok d S2 => .rt d S2
      | _ => .no) else .no
    | some false => takeH r c fs e S
    | none => .no
def kTryM (l : List HCl) (els : DS) : Out → Out
  | .ex c fs e' S' => takeH l c fs e' S'
  | .nx e' S' => els e' S'
  | o => o
def sTryM (l : List HCl) (body els : DS) : DS := fun e S => kTryM l els (body e S)
@[simp] theorem ev_tryM (l : List HCl) (body els : DS) (e : Env) (S : Sto) : sTryM l body els e S = kTryM l els (body e S) := rfl
@[simp] theorem kTryM_nx (l : List HCl) (els : DS) (e : Env) (S : Sto) : kTryM l els (.nx e S) = els e S := rfl
@[simp] theorem kTryM_rt (l : List HCl) (els : DS) (d : Dv) (S : Sto) : kTryM l els (.rt d S) = .rt d S := rfl
@[simp] theorem kTryM_ex (l : List HCl) (els : DS) (c : Str) (fs : List (Str × Dv)) (e : Env) (S : Sto) : kTryM l els (.ex c fs e S) = takeH l c fs e S := rfl
end DL
namespace DL
open PySem PySem.Spec PyProof.Rows L2
section
variable {X : Cx} {W : WX} {e : Expr} {es : List Expr} {ta : TA} {p pos : Pos}
/-- C(e, ..), as pmk_oexG, kept -/
theorem pe_oexV {x : Str} {C fI : Addr} {k : Nat} {fd : FuncData} {ps : List Str} {sp : Sp} (T : OexC X.K C) (iC : PySem.W.findIn X.K (.ref C) "__init__" = some (some (.ref fI))) (tI : PySem.W.typeIn X.K (.ref fI) = some (.type "function"))
    (F1 : FnG X.prog X.w X.K X.mg X.base k fI fd ps sp) (hr : RoomG (k + 1) X.A) (hb : Binds X.K fd ps []) (hg : Gl X x) (hm : X.mg x = some (.ref C)) (ha : PA X (e :: es) ta)
    (hdb : (x == ("__debug__" : Str)) = false := by decide) (he : starEach (e :: es) X.env = (false, eval e X.env) :: starEach es X.env := by rfl) (hpl : (backTo pos (starEach es X.env)).any (·.1) = false := by rfl) :
    PE X (.Call (.Name x p) (e :: es) [] pos) (fun σ H Q => ta σ H fun vs H1 => vs.length ≤ 1000 ∧ ∀ a, H1 a = none → sp (.ref a :: vs) (upd H1 a (exo a C none)) (fun v H2 => v = .non ∧ Q (.ref a) H2) (fun _ _ _ => False)) := by
  refine ⟨fun pins s σ H Q I h => ?_⟩
  obtain ⟨nm, q, N, bs, bm, sn, sub, ab, col, dd, k0, k1, k2, k3, k5, hC, hbm⟩ := T.cls
  refine wpAny_Call_Name_kw (ld_glob I hg hm ?_ hdb)
  refine PySem.W.callWith_K (h₀ := X.base) I.ok.mod.kin T.kC (thn (ha.run pos pins s σ H _ I h) fun us s1 ⟨vs, H1, I1, r1, hz, q1⟩ => ⟨I1.kIn, ?_⟩) he hpl
  show wpAny _ _ (call (.ref C) us) _ _ _
  obtain ⟨hp, g, dr, tk, os⟩ := s1
  have hsz : hp.objs.size ≤ hp.objs.size + 1 := Nat.le_succ _
  have hn : H1 (hp.objs.size + 1) = none := I1.hok.fresh hsz
  have hq := q1 (hp.objs.size + 1) hn
  have kk : ∀ b o, hp.get? b = some o → ((hp.push (PySem.W.kdv_tup us)).push (PySem.HandSPX.excO C hp.objs.size)).get? b = some o := fun b o e => Heap.get?_push_of_some _ (Heap.get?_push_of_some _ e)
  have hget : ((hp.push (PySem.W.kdv_tup us)).push (PySem.HandSPX.excO C hp.objs.size)).get? (hp.objs.size + 1) = some (PySem.HandSPX.excO C hp.objs.size) := by heap_get
  have I2 : Inv X pins σ (upd H1 (hp.objs.size + 1) (exo (hp.objs.size + 1) C none)) ⟨(hp.push (PySem.W.kdv_tup us)).push (PySem.HandSPX.excO C hp.objs.size), g, dr, tk, os⟩ :=
    I1.laid (t' := tk) (a := hp.objs.size + 1) (o := exo (hp.objs.size + 1) C none) (h' := (hp.push (PySem.W.kdv_tup us)).push (PySem.HandSPX.excO C hp.objs.size)) kk hsz (exo_ok hget)
  have r2 : Vals (V.ref (hp.objs.size + 1) :: (vs ++ [])) (Value.ref (hp.objs.size + 1) :: (us ++ [])) := .cons rfl (r1.append .nil)
  have hl : (Value.ref (hp.objs.size + 1) :: us ++ []).length = ps.length := by
    have e := r2.length
    rw [F1.len _ _ _ _ (by rw [List.append_nil]; exact hq)] at e
    exact e.symm
  have hus : us.length ≤ sizeLine := by
    rw [← Paired.length r1, sizeLine_eq]
    omega
  refine wpAny_call (PySem.HandSPX.call_own F.excBase_ValueError (fun Y => PySem.HandSPX.refsVE_contains Y bm hbm) (I1.kIn _ _ hC) (PySem.W.looks_findIn I1.kIn iC) (fun self => PySem.W.bind_fn I1.kIn self tI) hus
    (codeAny_mono (F1.run _ X.stack _ _ ⟨Value.ref (hp.objs.size + 1) :: us, []⟩ (Value.ref (hp.objs.size + 1) :: (us ++ [])) _ _ (fun _ _ _ => False) (hr.make C us []) (I2.env0.make C us []) (show BindsTo _ fd _ (ps.zip (Value.ref (hp.objs.size + 1) :: (us ++ []))) from hb _ (Value.ref (hp.objs.size + 1) :: us) I2.kIn hl) r2 (by rw [List.append_nil]; exact hq)) fun r s' hq' => ?_))
  cases r with
  | error er => exact (takesW0 (X := X)) er s' (XE.of_call I2 (fun _ _ _ z => z) hq')
  | ok fl =>
    cases fl with
    | ret u =>
      obtain ⟨v, H2, os2, bare2, un2, hok2, rv, ev, q2⟩ := hq'
      subst ev
      refine ⟨rv, ?_⟩
      exact ⟨.ref (hp.objs.size + 1), H2, I2.call' (ch := []) os2 un2 hok2 bare2 (fun b z => absurd z (by simp)), rfl, q2⟩
    | next => exact False.elim hq'
    | brk => exact False.elim hq'
    | cont => exact False.elim hq'
def kExc (g : DF) (c : Str) (ns : List Str) (l : List Dv) (S : Sto) : Res Dv := match g S l with
  | .ok _ _ => if l.length = ns.length then .ok (.ext 1 c ns l) S else .no
  | _ => .no
def eExc (g : DF) (c : Str) (ns : List Str) (fa : DA) : DE := fun e S => match fa e S with
  | .ok l S1 => kExc g c ns l S1
  | _ => .no
theorem qe_exc {k : Nat} {c : Str} {ns : List Str} {g : DF} {fa : DA} (F : FX X.prog X.w X.K X.mg X.base k c ns g) (hr : RoomG (k + 1) X.A) (hns : ns.length ≤ 1000) (ha : QA X W (e :: es) fa) (hg : Gl X c := by rfl)
    (hdb : (c == ("__debug__" : Str)) = false := by decide) (he : starEach (e :: es) X.env = (false, eval e X.env) :: starEach es X.env := by rfl) (hpl : (backTo pos (starEach es X.env)).any (·.1) = false := by rfl) :
    QE X W (.Call (.Name c p) (e :: es) [] pos) (eExc g c ns fa) := by
  rcases F with F | ⟨fd, ps, F, hm, T, hb⟩
  · refine ⟨fun pins s σ H Q I h => ?_⟩
    obtain ⟨L0, io0, H0, L, io, ev, S, fr, h⟩ := h
    exfalso
    unfold eExc at h
    cases hf : fa ev S with
    | ok l S' => rw [hf] at h; simp only [kExc, F] at h; exact h
    | ex c' fs S' => rw [hf] at h; exact h
    | no => rw [hf] at h; exact h
  · refine pe_imp (pe_oexV T.o T.i T.t F hr hb hg hm ha hdb he hpl) fun σ H Q h => ?_
    have h2 : Rdg X.K W (VR X.K) (fun e S => bnd (fa e S) (kExc g c ns)) σ H Q := by
      obtain ⟨L0, io0, H0, L, io, ev, S, fr, h⟩ := h
      refine ⟨L0, io0, H0, L, io, ev, S, fr, ?_⟩
      unfold eExc at h
      cases hf : fa ev S with
      | ok l S' => rw [hf] at h; show Fin X.K W (VR X.K) σ L io H Q (bnd (fa ev S) (kExc g c ns)); rw [hf]; exact h
      | _ => rw [hf] at h; exact h.elim
    refine Rdg.bind (R := VRs X.K) (k := fun _ l S1 => kExc g c ns l S1) h2 fun L0 io0 H0 L io H1 ev S l vs fr rv q => ?_
    unfold kExc at q
    cases hgg : g S l with
    | ok d S' =>
      rw [hgg] at q
      simp only at q
      split at q
      · rename_i hlen
        have hvl : vs.length = ns.length := by rw [rv.len, hlen]
        refine ⟨by omega, fun a hna => ?_⟩
        refine ⟨a, vs, rfl, hvl, upd_same, fun dx H2 k1 k2 k3 k4 k5 => ⟨rfl, ?_⟩⟩
        have hd : H1 dx = none := by rw [upd_ne k2] at k1; exact k1
        have keep : ∀ b o, H1 b = some o → H2 b = some o := fun b o e => by
          have n1 : b ≠ a := ne_of_none e hna
          have n2 : b ≠ dx := ne_of_none e hd
          rw [k5 b n1 n2, upd_ne n1]; exact e
        have s : Stp L io H1 L io H2 := ⟨⟨[], by simp⟩, fun _ h => .inl h, fun _ h => .inl h, fun b o e _ => keep b o e, fun _ h => h⟩
        have sr : SR X.K L io H2 S := ⟨fr.st.len, fr.st.nd, fr.st.sub, fun b hb => (by
            cases hz : H1 b with
            | none => exact absurd hz (fr.st.dom b hb)
            | some o => rw [keep b o hz]; exact fun z => nomatch z), fun k b o e1 e2 => (fr.st.obj k b o e1 e2).mono (fun u e' => keep b u e') fun v d r => r.step s fr.st.sub⟩
        refine q _ H2 L io s sr (.ext (by decide) (KindE.exc (dx := dx) hvl) (fun p hp => ?_) (rv.step s fr.st.sub))
        rcases List.mem_cons.mp hp with rfl | hp
        · exact ⟨fr.st.fresh hna, k3⟩
        · cases List.mem_singleton.mp hp
          exact ⟨fr.st.fresh hd, k4⟩
      · exact q.elim
    | _ => rw [hgg] at q; exact q.elim
end
section
variable {X : Cx} {pins : List (Addr × Obj)} {σ : L2.St} {H : Hp} {s : Shared}
theorem inst_exc {a C dx : Addr} {fs : List (Str × V)} (I : Inv X pins σ H s) (h1 : H a = some (exo a C (some dx))) (h2 : H dx = some (exd dx fs)) : ∃ oe od, PySem.W.InstAt s.heap a oe C (some od) := by
  obtain ⟨t1, hget⟩ := exo_at I.hok h1
  obtain ⟨mA, ⟨o, es, ep, e1, e2, _⟩, _⟩ := exd_at I.hok h2
  exact ⟨_, o, ⟨hget, rfl, rfl, e1⟩⟩
end
def notB (os xs : List Str) (S : Sto) (d : Dv) : Bool := match insOf S d with
  | some (c, _) => os.contains c
  | none => match d with
    | .ext 1 c _ _ => xs.contains c
    | _ => false
def tysB : List String → Bool
  | [] => true
  | t :: l => blt.contains t && tysB l
def isaD (os xs : List Str) (S : Sto) : List Dv → Option (Dv × Sto)
  | [d, c] => match isiD S [d, c] with
    | some r => some r
    | none => if notB os xs S d then (match c with
      | .ty t => if blt.contains t then some (.bl false, S) else none
      | .tup cs => (match tysOf cs with
        | some l => if tysB l then some (.bl false, S) else none
        | none => none)
      | _ => none) else none
  | _ => none
end DL
namespace DL
open PySem L2
def optOr {α : Type} : Option α → Option α → Option α
  | some a, _ => some a
  | none, b => b
@[simp] theorem optOr_some {α : Type} (a : α) (b : Option α) : optOr (some a) b = some a := rfl
@[simp] theorem optOr_none {α : Type} (b : Option α) : optOr none b = b := rfl
def isaE (os xs : List Str) (S : Sto) (d c : Dv) : Option (Dv × Sto) := if notB os xs S d then (match c with
      | .ty t => if blt.contains t then some (.bl false, S) else none
      | .tup cs => (match tysOf cs with
        | some l => if tysB l then some (.bl false, S) else none
        | none => none)
      | _ => none) else none
@[simp] theorem isaD_eq (os xs : List Str) (S : Sto) (d c : Dv) : isaD os xs S [d, c] = optOr (isiD S [d, c]) (isaE os xs S d c) := by
  unfold isaD isaE
  simp only
  generalize isiD S [d, c] = o
  cases o with
  | some a => rfl
  | none =>
    simp only [optOr_none]
    all_goals (by_cases h : notB os xs S d = true)
    all_goals (simp only [h, if_true])
    all_goals (try rfl)
    all_goals (cases c <;> rfl)
@[simp] theorem isi_obj (S : Sto) (c : Str) (fs : List (Str × Dv)) (x : Dv) : isiD S [.obj c fs, x] = none := by cases x <;> rfl
@[simp] theorem isi_ext (S : Sto) (t : Nat) (c : Str) (ns : List Str) (fs : List Dv) (x : Dv) : isiD S [.ext t c ns fs, x] = none := by cases x <;> rfl
end DL
namespace DL
open PySem PySem.Spec PyProof.Rows L2
def mulXD : Sto → Dv → Dv → Option (Dv × Sto)
  | S, .int i, .int j => if i.natAbs < 2 ^ 30000 ∧ j.natAbs < 2 ^ 30000 then some (.int (i * j), S) else none
  | _, _, _ => none
theorem ops_mulX {K : PySem.W.Frag} : OpS K (rI CMulX fun i j => .int (i * j)) mulXD := by
  intro L io H S x y a b d S' Q sr ra rb e q
  cases a with
  | int i =>
    cases b with
    | int j =>
      simp only [mulXD] at e
      split at e
      · rename_i h
        cases e
        cases ra.vr rfl
        cases rb.vr rfl
        exact ⟨i, j, rfl, rfl, mulx_ok h.1 h.2 (by decide), q _ H L io (Stp.refl ..) sr (.int _)⟩
      · cases e
    | _ => cases e
  | _ => cases e
theorem qe_mulX {X : Cx} {W : WX} {a b : Expr} {f1 f2 : DE} {pos : Pos} (ha : QX X W a f1) (hb : QX X W b f2) : QE X W (.BinOp a .Mult b pos) (eBin mulXD f1 f2) := qe_op op_mulX ops_mulX ha hb
def EqX (K : PySem.W.Frag) (H : Hp) (x y : V) : Prop := (x = y ∧ flatB x = true) ∨ (∃ a, x = .ref a ∧ y = .ref a) ∨ ∃ a b d d', x = .ref a ∧ y = .ref b ∧ Dp K H x d ∧ Dp K H y d' ∧ SeqAt.shaped d = true ∧ SeqAt.shaped d' = true ∧ PyData.eqv d d' = true
def rEqX (K : PySem.W.Frag) : R2 := fun x y H Q => (∃ a b xs ys, x = .ref a ∧ y = .ref b ∧ SqL K H a xs ∧ SqL K H b ys ∧ Paired (EqX K H) xs ys) ∧ Q (.bl true) H
theorem op_eqX {X : Cx} (hu : X.A.units + 80 < cLine) : OpR X (compareOp .Eq) (rEqX X.K) := by
  intro pins s σ H x y v u Q I rx ry h
  obtain ⟨h, q⟩ := h
  refine eqR_run I (A := X.A) (F := EqX X.K H) (by omega) (fun x y v u h rx ry => ?_) (.inl h) rx ry _ _ ⟨.bl true, H, I, rfl, q⟩
  rcases h with ⟨rfl, f⟩ | ⟨a, rfl, rfl⟩ | ⟨a, b, d, d', rfl, rfl, h1, h2, s1, s2, hv⟩
  · exact (eqAt_same rx ry f).eqP
  · cases (show v = Value.ref a from rx)
    cases (show u = Value.ref a from ry)
    exact (SeqAt.EqAt.same _).eqP
  · obtain ⟨as, r1⟩ := Dp.reads I d _ v h1 rx
    obtain ⟨bs, r2⟩ := Dp.reads I d' _ u h2 ry
    cases (show v = Value.ref a from rx)
    cases (show u = Value.ref b from ry)
    by_cases e : a = b
    · subst e
      exact (SeqAt.EqAt.same _).eqP
    · refine SeqAt.eqP_refs e fun E Q hq => ?_
      refine SeqAt.compareEq_shaped r1 r2 s1 s2 (by show X.A.units + 1 + 64 < cLine; omega) ?_
      rw [hv]; exact hq
def eqh (S : Sto) (d d' : Dv) : Bool := match d, d' with
  | .int i, .int j => decide (i = j)
  | .str i, .str j => decide (i = j)
  | .bl i, .bl j => decide (i = j)
  | .non, .non => true
  | .hdl i, .hdl j => decide (i = j)
  | .tup l, .tup m => deepE S (.tup l) (.tup m) == some true
  | _, _ => false
def eqhL (S : Sto) : List Dv → List Dv → Bool
  | [], [] => true
  | d :: l, d' :: m => eqh S d d' && eqhL S l m
  | _, _ => false
def eqHD (S : Sto) (a b : Dv) : Option (Dv × Sto) := match a, b with
  | .lst l, .lst m => if eqhL S l m = true then some (.bl true, S) else none
  | _, _ => none
section
variable {K : PySem.W.Frag} {L : Addr → Prop} {io : List Addr} {H : Hp} {S : Sto}
theorem eqh_ok (sr : SR K L io H S) {d d' : Dv} {v v' : V} (h : eqh S d d' = true) (r : VR K L io H v d) (r' : VR K L io H v' d') : EqX K H v v' := by
  unfold eqh at h
  split at h
  · cases r; cases r'; rw [of_decide_eq_true h]; exact .inl ⟨rfl, rfl⟩
  · cases r; cases r'; rw [of_decide_eq_true h]; exact .inl ⟨rfl, rfl⟩
  · cases r; cases r'; rw [of_decide_eq_true h]; exact .inl ⟨rfl, rfl⟩
  · cases r; cases r'; exact .inl ⟨rfl, rfl⟩
  · have e := of_decide_eq_true h
    subst e
    cases r with
    | hdl h1 =>
      cases r' with
      | hdl h2 => rw [h1] at h2; cases h2; exact .inr (.inl ⟨_, rfl, rfl⟩)
  · rename_i l m
    have h := eq_of_beq h
    unfold deepE at h
    cases h1 : toP (res S (.tup l)) with
    | none => rw [h1] at h; cases h
    | some p =>
      rw [h1] at h
      simp only [Option.bind_some] at h
      cases h2 : toP (res S (.tup m)) with
      | none => rw [h2] at h; cases h
      | some q =>
        rw [h2] at h
        simp only [Option.bind_some] at h
        split at h
        · rename_i hs
          rw [Bool.and_eq_true] at hs
          have d1 := res_dp sr (.inl r) h1
          have d2 := res_dp sr (.inl r') h2
          obtain ⟨a, xs, rfl, _⟩ := r.tupS
          obtain ⟨b, ys, rfl, _⟩ := r'.tupS
          exact .inr (.inr ⟨a, b, p, q, rfl, rfl, d1, d2, hs.1, hs.2, Option.some.inj h⟩)
        · cases h
  · cases h
theorem eqhL_ok (sr : SR K L io H S) : ∀ {l m : List Dv} {xs ys : List V}, eqhL S l m = true → VRs K L io H xs l → VRs K L io H ys m → Paired (EqX K H) xs ys
  | [], [], _, _, _, .nil, .nil => .nil
  | d :: l, d' :: m, _, _, h, .cons r1 t1, .cons r2 t2 => by
    have h : (eqh S d d' && eqhL S l m) = true := h
    rw [Bool.and_eq_true] at h
    exact .cons (eqh_ok sr h.1 r1 r2) (eqhL_ok sr h.2 t1 t2)
  | [], _ :: _, _, _, h, _, _ => by cases h
  | _ :: _, [], _, _, h, _, _ => by cases h
theorem ops_eqX : OpS K (rEqX K) eqHD := by
  intro L io H S x y a b d S' Q sr ra rb e q
  unfold eqHD at e
  split at e
  · rename_i l m
    split at e
    · rename_i h
      cases e
      obtain ⟨a, xs, rfl, h1, h2⟩ := asL_x sr ra rfl
      obtain ⟨b, ys, rfl, h3, h4⟩ := asL_x sr rb rfl
      exact ⟨⟨a, b, xs, ys, rfl, rfl, h1, h3, eqhL_ok sr h h2 h4⟩, q _ H L io (Stp.refl ..) sr (.bl true)⟩
    · cases e
  · cases e
end
section
variable {X : Cx} {W : WX} {e f : Expr} {f1 f2 : DE} {pos : Pos} {kk : Nat}
theorem qe_eqX (hu : X.A.units + 80 < cLine) (ha : QX X W e f1) (hb : QX X W f f2) : QE X W (.Compare e [.Eq] [f] pos) (eBin eqHD f1 f2) := qe_cmp (op_eqX hu) ops_eqX ha hb
end
theorem units80 {k : Nat} {A : Around} (r : Room k A) : A.units + 80 < cLine := by have := r.un; omega
section
variable {X : Cx} {W : WX} {p pos : Pos}
theorem pe_exc0 {C : Addr} {bmB : List Value} {B newId initId : String} {x : Str} (F : ExcBaseFacts B newId initId bmB) (q : PySem.W.excIn X.K C bmB newId = true) (gC : X.mg x = some (.ref C)) (kC : PySem.W.keepIn X.K (.ref C) = true) (hg : Gl X x)
    (hdb : (x == ("__debug__" : Str)) = false := by decide) :
    PE X (.Call (.Name x p) [] [] pos) (fun σ H Q => ∀ a, H a = none → Q (.ref a) (upd H a (exo a C none))) := by
  refine ⟨fun pins s σ H Q I h => ?_⟩
  refine wpAny_Call_Name_kw (ld_glob I hg gC ?_ hdb)
  refine PySem.W.callWith_K0 (first := []) I.kIn kC ?_
  show wpAny _ _ (call (.ref C) []) _ _ _
  obtain ⟨bm, N, nm, qn, bs, hdct, sn, sub, ab, col, dd, k0, k1, k2, k3, k5, mN, hC, hN, hni, T⟩ := exc_obj I.kIn q
  refine wpAny_call_exc_subT F T hC hN hni (fun h' a hm => ?_) (by show 0 ≤ sizeLine; omega)
  have hn : H a = none := I.hok.gone hm.new
  obtain ⟨t, ht, _, _⟩ := hm.there
  exact ⟨.ref a, upd H a (exo a C none), I.laidN hm.keeps hm.new hn (exo_ok ht), rfl, h a hn⟩
/-- what the head says of such a class -/
def veMro : List Value := [.type "ValueError", .type "Exception", .type "BaseException", .type "object"]
def XzF (K : PySem.W.Frag) (c : Str) : Prop := PySem.W.excIn K (He.ga K c) veMro "ValueError.__new__" = true ∧ PySem.W.keepIn K (.ref (He.ga K c)) = true
def xzB (c : Str) : Ft := .any fun K => PySem.W.excIn K (He.ga K c) veMro "ValueError.__new__" && PySem.W.keepIn K (.ref (He.ga K c))
theorem xz_f {K : PySem.W.Frag} {c : Str} (h : (xzB c).ok K = true) : XzF K c := He.ba (show (PySem.W.excIn K (He.ga K c) veMro "ValueError.__new__" && PySem.W.keepIn K (.ref (He.ga K c))) = true from h)
def eExc0 (c : Str) : DE := fun _ S => .ok (.ext 2 c [] []) S
theorem qe_exc0 {c : Str} (F : XzF X.K c) (hm : X.mg c = some (.ref (He.ga X.K c))) (hg : Gl X c := by rfl) (hdb : (c == ("__debug__" : Str)) = false := by decide) : QE X W (.Call (.Name c p) [] [] pos) (eExc0 c) := by
  refine pe_imp (pe_exc0 PySem.F.excBase_ValueError F.1 hm F.2 hg hdb) fun σ H Q h a hn => ?_
  obtain ⟨L0, io0, H0, L, io, ev, S, fr, q⟩ := h
  have s := Stp.alloc (L := L) (io := io) (o := exo a (He.ga X.K c) none) hn
  exact q _ _ L io s (fr.st.alloc hn) (.ext (by decide) .exc0 (fun p hp => by cases List.mem_singleton.mp hp; exact ⟨fr.st.fresh hn, upd_same⟩) .nil)
end
/-- what the library's isinstance rules ask of an exception class -/
structure XkF (K : PySem.W.Frag) (C : Addr) : Prop where
  cl : (PySem.W.clsIn K C).isSome = true
  x : XfC K C
  ha : PySem.W.findIn K (.ref C) "__class__" = some (some (.builtin "object.__class__"))
  hn : PySem.W.specialIn K (.builtin "object.__class__") "__get__" = some (some (.builtin "getset_descriptor.__get__"))
  ht : PySem.W.takesIn K (.builtin "object.__class__") = some true
  hm : PySem.W.mroIn K C (.type "object") = some true
def xkOk (K : PySem.W.Frag) (C : Addr) : Bool := (PySem.W.clsIn K C).isSome && xfB K C && (PySem.W.findIn K (.ref C) "__class__" == some (some (.builtin "object.__class__"))) && (PySem.W.specialIn K (.builtin "object.__class__") "__get__" == some (some (.builtin "getset_descriptor.__get__"))) && (PySem.W.takesIn K (.builtin "object.__class__") == some true) && (PySem.W.mroIn K C (.type "object") == some true)
theorem xkOk_of {K : PySem.W.Frag} {C : Addr} (h : xkOk K C = true) : XkF K C := by
  unfold xkOk at h
  obtain ⟨h, h6⟩ := He.ba h
  obtain ⟨h, h5⟩ := He.ba h
  obtain ⟨h, h4⟩ := He.ba h
  obtain ⟨h, h3⟩ := He.ba h
  obtain ⟨h1, h2⟩ := He.ba h
  exact ⟨h1, xfB_ok h2, beq_iff_eq.mp h3, beq_iff_eq.mp h4, beq_iff_eq.mp h5, beq_iff_eq.mp h6⟩
/-- isinstance against u: the exception classes in sub answer as it says -/
def IsX (K : PySem.W.Frag) (u : Value) (sub : List (Str × Bool)) : Prop := ∀ c b, sub.lookup c = some b → XkF K (He.ga K c) ∧ PySem.W.kitOne K (.ref (He.ga K c)) u = some b
def clV (K : PySem.W.Frag) : Dv → Value
  | .glo x => .ref (He.ga K x)
  | .ty n => .type n
  | _ => .none
def isxB (d : Dv) (sub : List (Str × Bool)) : Ft := .any fun K => sub.all fun q => xkOk K (He.ga K q.1) && (PySem.W.kitOne K (.ref (He.ga K q.1)) (clV K d) == some q.2)
theorem isx_f {K : PySem.W.Frag} {d : Dv} {sub : List (Str × Bool)} (h : (isxB d sub).ok K = true) : IsX K (clV K d) sub := fun c b hl => by
  obtain ⟨h1, h2⟩ := He.ba (List.all_eq_true.mp (show (sub.all fun q => xkOk K (He.ga K q.1) && (PySem.W.kitOne K (.ref (He.ga K q.1)) (clV K d) == some q.2)) = true from h) (c, b) (mem_lookupB hl))
  exact ⟨xkOk_of h1, beq_iff_eq.mp h2⟩
def rIsX1 (K : PySem.W.Frag) : List V → Hp → VK → Prop := fun xs H Q => ∃ (a C : Addr) (c : V) (u : Value) (b : Bool), xs = [.ref a, c] ∧ ClsV c u ∧ XkF K C ∧ (H a = some (exo a C none) ∨ ∃ dx fs, H a = some (exo a C (some dx)) ∧ H dx = some (exd dx fs)) ∧ PySem.W.kitOne K (.ref C) u = some b ∧ Q (.bl b) H
theorem call_isX1 {X : Cx} : CallR X (.builtin "isinstance") (rIsX1 X.K) := by
  intro pins s σ H xs us Q I r h
  obtain ⟨a, C, c, u, b, rfl, k, F, ho, e, q⟩ := h
  obtain ⟨u1, u2, rfl, r1, r2⟩ := vals2 r
  have e2 := k.eq r2
  subst e2
  cases (show u1 = Value.ref a from r1)
  have J : ∃ oe od, PySem.W.InstAt s.heap a oe C od := by
    rcases ho with h1 | ⟨dx, fs, h1, h2⟩
    · obtain ⟨t1, hget⟩ := exo_at I.hok h1
      exact ⟨_, none, ⟨hget, rfl, rfl, True.intro⟩⟩
    · obtain ⟨oe, od, J⟩ := inst_exc I h1 h2
      exact ⟨oe, some od, J⟩
  obtain ⟨oe, od, J⟩ := J
  exact PySem.W.kia_one (PySem.W.kitx_exc F.cl F.x.ga F.x.gg F.x.exC F.ha F.hn F.ht F.hm) I.kIn J e (fun z => nomatch z) fun tk => ⟨.bl b, H, I.tok tk, rfl, q⟩
def isxD (cd : Dv) (sub : List (Str × Bool)) (S : Sto) : List Dv → Option (Dv × Sto)
  | [.ext 1 c _ _, .glo x] => (match cd with
    | .glo y => if x = y then (sub.lookup c).map fun b => (.bl b, S) else none
    | _ => none)
  | [.ext 2 c _ _, .glo x] => (match cd with
    | .glo y => if x = y then (sub.lookup c).map fun b => (.bl b, S) else none
    | _ => none)
  | [.ext 1 c _ _, .ty x] => (match cd with
    | .ty y => if x = y then (sub.lookup c).map fun b => (.bl b, S) else none
    | _ => none)
  | [.ext 2 c _ _, .ty x] => (match cd with
    | .ty y => if x = y then (sub.lookup c).map fun b => (.bl b, S) else none
    | _ => none)
  | _ => none
theorem ext_exo {K : PySem.W.Frag} {L : Addr → Prop} {io : List Addr} {H : Hp} {v : V} {t : Nat} {c : Str} {ns : List Str} {ds : List Dv} (r : VR K L io H v (.ext t c ns ds)) (ht : t = 1 ∨ t = 2) :
    ∃ a, v = .ref a ∧ (H a = some (exo a (He.ga K c) none) ∨ ∃ dx fs, H a = some (exo a (He.ga K c) (some dx)) ∧ H dx = some (exd dx fs)) := by
  cases r with
  | ext h0 hk ho _ =>
    cases hk with
    | exc hl => exact ⟨_, rfl, .inr ⟨_, _, (ho _ List.mem_cons_self).2, (ho _ (List.mem_cons_of_mem _ List.mem_cons_self)).2⟩⟩
    | exc0 => exact ⟨_, rfl, .inl (ho _ List.mem_cons_self).2⟩
    | cod => rcases ht with h | h <;> cases h
theorem cas_isx {K : PySem.W.Frag} {cd : Dv} {sub : List (Str × Bool)} (T : IsX K (clV K cd) sub) : CaS K (rIsX1 K) (isxD cd sub) := by
  intro L io H S vs l d S' Q sr rv e q
  have fin : ∀ (v w : V) (t : Nat) (c : Str) (ns : List Str) (ds : List Dv) (cc : Dv), (t = 1 ∨ t = 2) → VX K L io H v (.ext t c ns ds) → ClsV w (clV K cd) → (sub.lookup c).map (fun b => (Dv.bl b, S)) = some (d, S') → rIsX1 K [v, w] H Q := by
    intro v w t c ns ds cc ht r k e
    obtain ⟨b, h1, h2⟩ := map_ok e
    cases h2
    obtain ⟨F, hk⟩ := T c b h1
    have r' : VR K L io H v (.ext t c ns ds) := r.vr (by rcases ht with rfl | rfl <;> rfl)
    obtain ⟨a, rfl, ho⟩ := ext_exo r' ht
    exact ⟨a, _, w, _, b, rfl, k, F, ho, hk, q _ H L io (Stp.refl ..) sr (.bl _)⟩
  unfold isxD at e
  split at e
  · cases rv with
    | cons r t =>
      cases t with
      | cons r2 t2 =>
        cases t2
        cases cd <;> try (cases e; done)
        simp only at e
        split at e
        · rename_i hx
          subst hx
          cases r2.vr rfl with
          | glo x => exact fin _ _ 1 _ _ _ .non (.inl rfl) r (.own _) e
        · cases e
  · cases rv with
    | cons r t =>
      cases t with
      | cons r2 t2 =>
        cases t2
        cases cd <;> try (cases e; done)
        simp only at e
        split at e
        · rename_i hx
          subst hx
          cases r2.vr rfl with
          | glo x => exact fin _ _ 2 _ _ _ .non (.inr rfl) r (.own _) e
        · cases e
  · cases rv with
    | cons r t =>
      cases t with
      | cons r2 t2 =>
        cases t2
        cases cd <;> try (cases e; done)
        simp only at e
        split at e
        · rename_i hx
          subst hx
          cases r2.vr rfl with
          | ty x => exact fin _ _ 1 _ _ _ .non (.inl rfl) r (.ty _) e
        · cases e
  · cases rv with
    | cons r t =>
      cases t with
      | cons r2 t2 =>
        cases t2
        cases cd <;> try (cases e; done)
        simp only at e
        split at e
        · rename_i hx
          subst hx
          cases r2.vr rfl with
          | ty x => exact fin _ _ 2 _ _ _ .non (.inr rfl) r (.ty _) e
        · cases e
  · cases e
section
variable {X : Cx} {W : WX} {e : Expr} {te : TE} {f : DE} {pos : Pos} {n : Str}
theorem pe_xfv (hb : attributeBase e n X.env (eval e X.env) = eval e X.env) (he : PE X e te) :
    PE X (.Attribute e n pos) (fun σ H Q => te σ H fun x H1 => ∃ (a C dx : Addr) (fs : List (Str × V)) (v : V), x = .ref a ∧ XfC X.K C ∧ PySem.W.findIn X.K (.ref C) n = some none ∧ H1 a = some (exo a C (some dx)) ∧ H1 dx = some (exd dx fs) ∧ fs.lookup n = some v ∧ Q v H1) := by
  refine ⟨fun pins s σ H Q I h => ?_⟩
  refine attr_of hb (thn (he.run pins s σ H _ I h) fun u s1 hh => ?_)
  obtain ⟨x, H1, I1, rx, a, C, dx, fs, v, ex, T, hno, h1, h2, l, q⟩ := hh
  subst ex
  obtain rfl : u = Value.ref a := rx
  obtain ⟨t1, hget⟩ := exo_at I1.hok h1
  obtain ⟨mA, hns, hr⟩ := exd_at I1.hok h2
  obtain ⟨od, ho, hl⟩ := lookIn_ns hns
  obtain ⟨u, hu, ru⟩ := RelO.some_of (v := v) (o := mA n) (by rw [← l]; exact hr n)
  have J : PySem.W.InstAt s1.heap a _ C (some od) := ⟨hget, rfl, rfl, ho⟩
  exact HandSPX.exc_get I1.kIn J T.ga T.gg T.exC (PySem.W.findObj_own T.hdC hno rfl (by rw [hl, hu])) (handed_of ru) ⟨v, H1, I1.tok _, ru, q⟩
def kXf (tab : List (Str × List Str)) (n : Str) (d : Dv) (S : Sto) : Res Dv := match d with
  | .ext 1 c ns l => if tab.lookup c = some ns ∧ ns.contains n = true then (match (ns.zip l).reverse.lookup n with
    | some x => .ok x S
    | none => .no) else .no
  | _ => .no
def eXf (tab : List (Str × List Str)) (n : Str) (f : DE) : DE := fun e S => bnd (f e S) (kXf tab n)
theorem qe_xf {tab : List (Str × List Str)} (T : XcT X.K tab) (ho : QE X W e f) (hb : attributeBase e n X.env (eval e X.env) = eval e X.env := by rfl) : QE X W (.Attribute e n pos) (eXf tab n f) :=
  pe_imp (pe_xfv hb ho) fun g H Q q => by
  refine Rdg.bind (R := VR X.K) (k := fun _ => kXf tab n) q fun L0 io0 H0 L io H1 ev S d v fr rv q => ?_
  unfold kXf at q
  split at q
  · rename_i c ns l
    split at q
    · rename_i hc
      cases h : (ns.zip l).reverse.lookup n with
      | none => rw [h] at q; exact q.elim
      | some x =>
        rw [h] at q
        have F := T c ns hc.1
        cases rv with
        | ext h0 hk hos t =>
          cases hk with
          | exc hl =>
            have pr : PairR (VR X.K L io H1) (ns.zip _).reverse (ns.zip l).reverse := Paired.rev (pairR_zip ns t)
            obtain ⟨w, h1, h2⟩ := pairR_look pr h
            exact ⟨_, _, _, _, w, rfl, F.x, F.no n (List.contains_iff_mem.mp hc.2), (hos _ List.mem_cons_self).2, (hos _ (List.mem_cons_of_mem _ List.mem_cons_self)).2, h1, q _ H1 L io (Stp.refl ..) fr.st h2⟩
    · exact q.elim
  · exact q.elim
end
end DL
namespace DL
open PySem L2
inductive Fn where
  | BadRow_init
  | Unset_init
  | NoRow_init
  | BadLine_init
  | NoChoice_init
  | BadLookup_init
  | OneValue_init
  | NoLookup_init
  | QuietLoop_init
  | NoFailing_init
  | NoIndex_init
  | NoPair_init
  | NotFoldable_init
  | NoSpelling_init
  | BadName_init
  | NoName_init
  | BadChoice_init
  | BadPower_init
  | l_bag
  | l_fields
  | l_take
  | l_any
  | l_errors
  | l_alike
  | l_flags
  | law
def xs_BadChoice : List (Str × Bool) := [("BadRow", false), ("Unset", false), ("NoRow", false), ("BadLine", false), ("BadChoice", true), ("NoChoice", false), ("BadPower", false), ("BadLookup", false), ("OneValue", false), ("NoLookup", false), ("QuietLoop", false), ("NoFailing", false), ("Contradiction", false), ("HasLoop", false), ("NoParting", false), ("NoIndex", false), ("NoPair", false), ("NotFoldable", false), ("NoSpelling", false), ("BadName", false), ("NoName", false), ("NothingDone", false)]
def xs_BadLine : List (Str × Bool) := [("BadRow", false), ("Unset", false), ("NoRow", false), ("BadLine", true), ("BadChoice", false), ("NoChoice", false), ("BadPower", false), ("BadLookup", false), ("OneValue", false), ("NoLookup", false), ("QuietLoop", false), ("NoFailing", false), ("Contradiction", false), ("HasLoop", false), ("NoParting", false), ("NoIndex", false), ("NoPair", false), ("NotFoldable", false), ("NoSpelling", false), ("BadName", false), ("NoName", false), ("NothingDone", false)]
def xs_BadLookup : List (Str × Bool) := [("BadRow", false), ("Unset", false), ("NoRow", false), ("BadLine", false), ("BadChoice", false), ("NoChoice", false), ("BadPower", false), ("BadLookup", true), ("OneValue", false), ("NoLookup", false), ("QuietLoop", false), ("NoFailing", false), ("Contradiction", false), ("HasLoop", false), ("NoParting", false), ("NoIndex", false), ("NoPair", false), ("NotFoldable", false), ("NoSpelling", false), ("BadName", false), ("NoName", false), ("NothingDone", false)]
def xs_BadName : List (Str × Bool) := [("BadRow", false), ("Unset", false), ("NoRow", false), ("BadLine", false), ("BadChoice", false), ("NoChoice", false), ("BadPower", false), ("BadLookup", false), ("OneValue", false), ("NoLookup", false), ("QuietLoop", false), ("NoFailing", false), ("Contradiction", false), ("HasLoop", false), ("NoParting", false), ("NoIndex", false), ("NoPair", false), ("NotFoldable", false), ("NoSpelling", false), ("BadName", true), ("NoName", false), ("NothingDone", false)]
def xs_BadPower : List (Str × Bool) := [("BadRow", false), ("Unset", false), ("NoRow", false), ("BadLine", false), ("BadChoice", false), ("NoChoice", false), ("BadPower", true), ("BadLookup", false), ("OneValue", false), ("NoLookup", false), ("QuietLoop", false), ("NoFailing", false), ("Contradiction", false), ("HasLoop", false), ("NoParting", false), ("NoIndex", false), ("NoPair", false), ("NotFoldable", false), ("NoSpelling", false), ("BadName", false), ("NoName", false), ("NothingDone", false)]
def xs_BadRow : List (Str × Bool) := [("BadRow", true), ("Unset", false), ("NoRow", false), ("BadLine", false), ("BadChoice", false), ("NoChoice", false), ("BadPower", false), ("BadLookup", false), ("OneValue", false), ("NoLookup", false), ("QuietLoop", false), ("NoFailing", false), ("Contradiction", false), ("HasLoop", false), ("NoParting", false), ("NoIndex", false), ("NoPair", false), ("NotFoldable", false), ("NoSpelling", false), ("BadName", false), ("NoName", false), ("NothingDone", false)]
def xs_Contradiction : List (Str × Bool) := [("BadRow", false), ("Unset", false), ("NoRow", false), ("BadLine", false), ("BadChoice", false), ("NoChoice", false), ("BadPower", false), ("BadLookup", false), ("OneValue", false), ("NoLookup", false), ("QuietLoop", false), ("NoFailing", false), ("Contradiction", true), ("HasLoop", false), ("NoParting", false), ("NoIndex", false), ("NoPair", false), ("NotFoldable", false), ("NoSpelling", false), ("BadName", false), ("NoName", false), ("NothingDone", false)]
def xs_FoundError : List (Str × Bool) := [("BadRow", true), ("Unset", true), ("NoRow", true), ("BadLine", true), ("BadChoice", true), ("NoChoice", true), ("BadPower", true), ("BadLookup", true), ("OneValue", true), ("NoLookup", true), ("QuietLoop", true), ("NoFailing", true), ("Contradiction", true), ("HasLoop", true), ("NoParting", true), ("NoIndex", true), ("NoPair", true), ("NotFoldable", true), ("NoSpelling", true), ("BadName", true), ("NoName", true), ("NothingDone", true)]
def xs_HasLoop : List (Str × Bool) := [("BadRow", false), ("Unset", false), ("NoRow", false), ("BadLine", false), ("BadChoice", false), ("NoChoice", false), ("BadPower", false), ("BadLookup", false), ("OneValue", false), ("NoLookup", false), ("QuietLoop", false), ("NoFailing", false), ("Contradiction", false), ("HasLoop", true), ("NoParting", false), ("NoIndex", false), ("NoPair", false), ("NotFoldable", false), ("NoSpelling", false), ("BadName", false), ("NoName", false), ("NothingDone", false)]
def xs_NoChoice : List (Str × Bool) := [("BadRow", false), ("Unset", false), ("NoRow", false), ("BadLine", false), ("BadChoice", false), ("NoChoice", true), ("BadPower", false), ("BadLookup", false), ("OneValue", false), ("NoLookup", false), ("QuietLoop", false), ("NoFailing", false), ("Contradiction", false), ("HasLoop", false), ("NoParting", false), ("NoIndex", false), ("NoPair", false), ("NotFoldable", false), ("NoSpelling", false), ("BadName", false), ("NoName", false), ("NothingDone", false)]
def xs_NoFailing : List (Str × Bool) := [("BadRow", false), ("Unset", false), ("NoRow", false), ("BadLine", false), ("BadChoice", false), ("NoChoice", false), ("BadPower", false), ("BadLookup", false), ("OneValue", false), ("NoLookup", false), ("QuietLoop", false), ("NoFailing", true), ("Contradiction", false), ("HasLoop", false), ("NoParting", false), ("NoIndex", false), ("NoPair", false), ("NotFoldable", false), ("NoSpelling", false), ("BadName", false), ("NoName", false), ("NothingDone", false)]
def xs_NoIndex : List (Str × Bool) := [("BadRow", false), ("Unset", false), ("NoRow", false), ("BadLine", false), ("BadChoice", false), ("NoChoice", false), ("BadPower", false), ("BadLookup", false), ("OneValue", false), ("NoLookup", false), ("QuietLoop", false), ("NoFailing", false), ("Contradiction", false), ("HasLoop", false), ("NoParting", false), ("NoIndex", true), ("NoPair", false), ("NotFoldable", false), ("NoSpelling", false), ("BadName", false), ("NoName", false), ("NothingDone", false)]
def xs_NoLookup : List (Str × Bool) := [("BadRow", false), ("Unset", false), ("NoRow", false), ("BadLine", false), ("BadChoice", false), ("NoChoice", false), ("BadPower", false), ("BadLookup", false), ("OneValue", false), ("NoLookup", true), ("QuietLoop", false), ("NoFailing", false), ("Contradiction", false), ("HasLoop", false), ("NoParting", false), ("NoIndex", false), ("NoPair", false), ("NotFoldable", false), ("NoSpelling", false), ("BadName", false), ("NoName", false), ("NothingDone", false)]
def xs_NoName : List (Str × Bool) := [("BadRow", false), ("Unset", false), ("NoRow", false), ("BadLine", false), ("BadChoice", false), ("NoChoice", false), ("BadPower", false), ("BadLookup", false), ("OneValue", false), ("NoLookup", false), ("QuietLoop", false), ("NoFailing", false), ("Contradiction", false), ("HasLoop", false), ("NoParting", false), ("NoIndex", false), ("NoPair", false), ("NotFoldable", false), ("NoSpelling", false), ("BadName", false), ("NoName", true), ("NothingDone", false)]
def xs_NoPair : List (Str × Bool) := [("BadRow", false), ("Unset", false), ("NoRow", false), ("BadLine", false), ("BadChoice", false), ("NoChoice", false), ("BadPower", false), ("BadLookup", false), ("OneValue", false), ("NoLookup", false), ("QuietLoop", false), ("NoFailing", false), ("Contradiction", false), ("HasLoop", false), ("NoParting", false), ("NoIndex", false), ("NoPair", true), ("NotFoldable", false), ("NoSpelling", false), ("BadName", false), ("NoName", false), ("NothingDone", false)]
def xs_NoParting : List (Str × Bool) := [("BadRow", false), ("Unset", false), ("NoRow", false), ("BadLine", false), ("BadChoice", false), ("NoChoice", false), ("BadPower", false), ("BadLookup", false), ("OneValue", false), ("NoLookup", false), ("QuietLoop", false), ("NoFailing", false), ("Contradiction", false), ("HasLoop", false), ("NoParting", true), ("NoIndex", false), ("NoPair", false), ("NotFoldable", false), ("NoSpelling", false), ("BadName", false), ("NoName", false), ("NothingDone", false)]
def xs_NoRow : List (Str × Bool) := [("BadRow", false), ("Unset", false), ("NoRow", true), ("BadLine", false), ("BadChoice", false), ("NoChoice", false), ("BadPower", false), ("BadLookup", false), ("OneValue", false), ("NoLookup", false), ("QuietLoop", false), ("NoFailing", false), ("Contradiction", false), ("HasLoop", false), ("NoParting", false), ("NoIndex", false), ("NoPair", false), ("NotFoldable", false), ("NoSpelling", false), ("BadName", false), ("NoName", false), ("NothingDone", false)]
def xs_NoSpelling : List (Str × Bool) := [("BadRow", false), ("Unset", false), ("NoRow", false), ("BadLine", false), ("BadChoice", false), ("NoChoice", false), ("BadPower", false), ("BadLookup", false), ("OneValue", false), ("NoLookup", false), ("QuietLoop", false), ("NoFailing", false), ("Contradiction", false), ("HasLoop", false), ("NoParting", false), ("NoIndex", false), ("NoPair", false), ("NotFoldable", false), ("NoSpelling", true), ("BadName", false), ("NoName", false), ("NothingDone", false)]
def xs_NotFoldable : List (Str × Bool) := [("BadRow", false), ("Unset", false), ("NoRow", false), ("BadLine", false), ("BadChoice", false), ("NoChoice", false), ("BadPower", false), ("BadLookup", false), ("OneValue", false), ("NoLookup", false), ("QuietLoop", false), ("NoFailing", false), ("Contradiction", false), ("HasLoop", false), ("NoParting", false), ("NoIndex", false), ("NoPair", false), ("NotFoldable", true), ("NoSpelling", false), ("BadName", false), ("NoName", false), ("NothingDone", false)]
def xs_NothingDone : List (Str × Bool) := [("BadRow", false), ("Unset", false), ("NoRow", false), ("BadLine", false), ("BadChoice", false), ("NoChoice", false), ("BadPower", false), ("BadLookup", false), ("OneValue", false), ("NoLookup", false), ("QuietLoop", false), ("NoFailing", false), ("Contradiction", false), ("HasLoop", false), ("NoParting", false), ("NoIndex", false), ("NoPair", false), ("NotFoldable", false), ("NoSpelling", false), ("BadName", false), ("NoName", false), ("NothingDone", true)]
def xs_OneValue : List (Str × Bool) := [("BadRow", false), ("Unset", false), ("NoRow", false), ("BadLine", false), ("BadChoice", false), ("NoChoice", false), ("BadPower", false), ("BadLookup", false), ("OneValue", true), ("NoLookup", false), ("QuietLoop", false), ("NoFailing", false), ("Contradiction", false), ("HasLoop", false), ("NoParting", false), ("NoIndex", false), ("NoPair", false), ("NotFoldable", false), ("NoSpelling", false), ("BadName", false), ("NoName", false), ("NothingDone", false)]
def xs_QuietLoop : List (Str × Bool) := [("BadRow", false), ("Unset", false), ("NoRow", false), ("BadLine", false), ("BadChoice", false), ("NoChoice", false), ("BadPower", false), ("BadLookup", false), ("OneValue", false), ("NoLookup", false), ("QuietLoop", true), ("NoFailing", false), ("Contradiction", false), ("HasLoop", false), ("NoParting", false), ("NoIndex", false), ("NoPair", false), ("NotFoldable", false), ("NoSpelling", false), ("BadName", false), ("NoName", false), ("NothingDone", false)]
def xs_Unset : List (Str × Bool) := [("BadRow", false), ("Unset", true), ("NoRow", false), ("BadLine", false), ("BadChoice", false), ("NoChoice", false), ("BadPower", false), ("BadLookup", false), ("OneValue", false), ("NoLookup", false), ("QuietLoop", false), ("NoFailing", false), ("Contradiction", false), ("HasLoop", false), ("NoParting", false), ("NoIndex", false), ("NoPair", false), ("NotFoldable", false), ("NoSpelling", false), ("BadName", false), ("NoName", false), ("NothingDone", false)]
def xs_ValueError : List (Str × Bool) := [("BadRow", true), ("Unset", true), ("NoRow", true), ("BadLine", true), ("BadChoice", true), ("NoChoice", true), ("BadPower", true), ("BadLookup", true), ("OneValue", true), ("NoLookup", true), ("QuietLoop", true), ("NoFailing", true), ("Contradiction", true), ("HasLoop", true), ("NoParting", true), ("NoIndex", true), ("NoPair", true), ("NotFoldable", true), ("NoSpelling", true), ("BadName", true), ("NoName", true), ("NothingDone", true)]
def tbl : List (Str × Fn) := []
def xtab : List (Str × List Str) := [("BadRow", ["path"]), ("Unset", ["name"]), ("NoRow", ["index"]), ("BadLine", ["line"]), ("BadChoice", ["choice", "value"]), ("NoChoice", ["choice"]), ("BadPower", ["sign", "power"]), ("BadLookup", ["lookup"]), ("OneValue", ["value"]), ("NoLookup", ["lookup"]), ("QuietLoop", ["sign"]), ("NoFailing", ["index"]), ("NoIndex", ["index"]), ("NoPair", ["pair"]), ("NotFoldable", ["name"]), ("NoSpelling", ["word"]), ("BadName", ["name"]), ("NoName", ["name"])]
def g_BadRow_init (c : Fn → DF) : DF := gX
def g_Unset_init (c : Fn → DF) : DF := gX
def g_NoRow_init (c : Fn → DF) : DF := gX
def g_BadLine_init (c : Fn → DF) : DF := gX
def g_NoChoice_init (c : Fn → DF) : DF := gX
def g_BadLookup_init (c : Fn → DF) : DF := gX
def g_OneValue_init (c : Fn → DF) : DF := gX
def g_NoLookup_init (c : Fn → DF) : DF := gX
def g_QuietLoop_init (c : Fn → DF) : DF := gX
def g_NoFailing_init (c : Fn → DF) : DF := gX
def g_NoIndex_init (c : Fn → DF) : DF := gX
def g_NoPair_init (c : Fn → DF) : DF := gX
def g_NotFoldable_init (c : Fn → DF) : DF := gX
def g_NoSpelling_init (c : Fn → DF) : DF := gX
def g_BadName_init (c : Fn → DF) : DF := gX
def g_NoName_init (c : Fn → DF) : DF := gX
def g_BadChoice_init (c : Fn → DF) : DF := gX
def g_BadPower_init (c : Fn → DF) : DF := gX
def fb_l_bag (c : Fn → DF) : DS := (sRet (eNew (fLst (aCons (eC (.int 0)) (aCons (eC (.int 1234567891)) (aCons (eC (.int 0)) (aCons (eFrz (fLc (iSq (eCut (eVar 0) oNone (oSome (eC (.int 63))))) (gN 1) tTrue (eCB absD (aCons (eVar 1) aNil)) [1])) aNil)))))))
def g_l_bag (c : Fn → DF) : DF := runF 1 2 (fb_l_bag c)
def fb_l_fields (c : Fn → DF) : DS := (sSeq (sAsg 1 (eFrz (fLst (aCons (eXf xtab "path" (eBin ixD (eVar 0) (eC (.int 0)))) (aCons (eXf xtab "name" (eBin ixD (eVar 0) (eC (.int 1)))) (aCons (eXf xtab "index" (eBin ixD (eVar 0) (eC (.int 2)))) (aCons (eXf xtab "line" (eBin ixD (eVar 0) (eC (.int 3)))) (aCons (eXf xtab "choice" (eBin ixD (eVar 0) (eC (.int 4)))) (aCons (eXf xtab "lookup" (eBin ixD (eVar 0) (eC (.int 5)))) aNil))))))))) (sSeq (sAsg 1 (eBin addD (eVar 1) (eFrz (fLst (aCons (eXf xtab "value" (eBin ixD (eVar 0) (eC (.int 6)))) (aCons (eXf xtab "lookup" (eBin ixD (eVar 0) (eC (.int 7)))) (aCons (eXf xtab "sign" (eBin ixD (eVar 0) (eC (.int 8)))) (aCons (eXf xtab "index" (eBin ixD (eVar 0) (eC (.int 9)))) (aCons (eXf xtab "index" (eBin ixD (eVar 0) (eC (.int 10)))) (aCons (eXf xtab "pair" (eBin ixD (eVar 0) (eC (.int 11)))) aNil)))))))))) (sSeq (sAsg 1 (eBin addD (eVar 1) (eFrz (fLst (aCons (eXf xtab "name" (eBin ixD (eVar 0) (eC (.int 12)))) (aCons (eXf xtab "word" (eBin ixD (eVar 0) (eC (.int 13)))) (aCons (eXf xtab "name" (eBin ixD (eVar 0) (eC (.int 14)))) (aCons (eXf xtab "name" (eBin ixD (eVar 0) (eC (.int 15)))) (aCons (eXf xtab "choice" (eBin ixD (eVar 0) (eC (.int 16)))) (aCons (eXf xtab "sign" (eBin ixD (eVar 0) (eC (.int 17)))) aNil)))))))))) (sRet (eBin addD (eVar 1) (eFrz (fLst (aCons (eXf xtab "value" (eBin ixD (eVar 0) (eC (.int 16)))) (aCons (eXf xtab "power" (eBin ixD (eVar 0) (eC (.int 17)))) aNil)))))))))
def g_l_fields (c : Fn → DF) : DF := runF 1 2 (fb_l_fields c)
def fb_l_take (c : Fn → DF) : DS := (sSeq (sIf (tVal (eBin eqE (eBin ixD (eVar 0) (eC (.int 0))) (eC (.int 0)))) (sSeq (sAsg 2 (eC (.int 0))) (sSeq (sIf (tVal (eBin (pu2 ltD) (eBin ixD (eVar 0) (eC (.int 2))) (eCB lenD (aCons (eBin ixD (eVar 0) (eC (.int 3))) aNil)))) (sAsg 2 (eBin ixD (eBin ixD (eVar 0) (eC (.int 3))) (eBin ixD (eVar 0) (eC (.int 2))))) sNil) (sSeq (sAugI addI (eVar 0) (eC (.int 2)) (eC (.int 1))) (sSeq (sIf (tVal (eBin (pu2 geD) (eVar 2) (eC (.int 1000000000000000000)))) (sSetI (eVar 0) (eC (.int 0)) (eVar 2)) sNil) (sSeq (sAsg 3 (eBin addD (eBin addD (eBin (pu2 mulD) (eBin ixD (eVar 0) (eC (.int 1))) (eC (.int 48271))) (eBin (pu2 modD) (eCB intD2 (aCons (eVar 2) aNil)) (eC (.int 2147483647)))) (eBin (pu2 mulD) (eC (.int 7919)) (eBin ixD (eVar 0) (eC (.int 2)))))) (sSetI (eVar 0) (eC (.int 1)) (eBin (pu2 modD) (eCB intD2 (aCons (eVar 3) aNil)) (eC (.int 2147483647))))))))) sNil) (sSeq (sIf (tVal (eBin (pu2 gtD) (eBin ixD (eVar 0) (eC (.int 0))) (eC (.int 0)))) (sSeq (sAsg 4 (eBin (pu2 modD) (eCB intD2 (aCons (eBin ixD (eVar 0) (eC (.int 0))) aNil)) (eVar 1))) (sSeq (sSetI (eVar 0) (eC (.int 0)) (eBin (pu2 fdivD) (eCB intD2 (aCons (eBin ixD (eVar 0) (eC (.int 0))) aNil)) (eVar 1))) (sRet (eVar 4)))) sNil) (sSeq (sAsg 5 (eBin (pu2 modD) (eCB intD2 (aCons (eBin (pu2 mulD) (eBin addD (eBin ixD (eVar 0) (eC (.int 1))) (eC (.int 1))) (eC (.int 39373))) aNil)) (eC (.int 1000000007)))) (sSeq (sAsg 6 (eBin (pu2 modD) (eCB intD2 (aCons (eBin (pu2 mulD) (eBin (pu2 modD) (eCB intD2 (aCons (eBin (pu2 mulD) (eVar 5) (eVar 5)) aNil)) (eC (.int 998244353))) (eC (.int 30011))) aNil)) (eC (.int 998244353)))) (sRet (eBin (pu2 modD) (eCB intD2 (aCons (eBin (pu2 fdivD) (eVar 6) (eC (.int 7))) aNil)) (eVar 1)))))))
def g_l_take (c : Fn → DF) : DF := runF 2 7 (fb_l_take c)
def fb_l_any (c : Fn → DF) : DS := (sSeq (sAsg 1 (eFrz (fLst (aCons (eC .non) (aCons (eC (.bl true)) (aCons (eC (.int 0)) (aCons (eBin (pu2 powD) (eC (.int 10)) (eC (.int 39))) (aCons (eC (.str "a")) (aCons (eTup aNil) (aCons (eHdlN (nD dNil)) (aCons (eTup (aCons (eC (.str "a")) (aCons (eC (.str "b")) aNil))) (aCons (eNeg (eC (.int 1))) aNil)))))))))))) (sRet (eIf (tVal (eBin eqE (eCall (c .l_take) (aCons (eVar 0) (aCons (eC (.int 3)) aNil))) (eC (.int 0)))) (eBin ixD (eVar 1) (eCall (c .l_take) (aCons (eVar 0) (aCons (eC (.int 9)) aNil)))) (eNew (fLst (aCons (eCall (c .l_take) (aCons (eVar 0) (aCons (eC (.int 9)) aNil))) aNil))))))
def g_l_any (c : Fn → DF) : DF := runF 1 2 (fb_l_any c)
def fb_l_errors (c : Fn → DF) : DS := (sSeq (sAsg 2 (eFrz (fLst (aCons (eExc (c .BadRow_init) "BadRow" ["path"] (aCons (eVar 0) aNil)) (aCons (eExc (c .Unset_init) "Unset" ["name"] (aCons (eVar 0) aNil)) (aCons (eExc (c .NoRow_init) "NoRow" ["index"] (aCons (eVar 0) aNil)) (aCons (eExc (c .BadLine_init) "BadLine" ["line"] (aCons (eVar 0) aNil)) (aCons (eExc (c .NoChoice_init) "NoChoice" ["choice"] (aCons (eVar 0) aNil)) (aCons (eExc (c .BadLookup_init) "BadLookup" ["lookup"] (aCons (eVar 0) aNil)) (aCons (eExc (c .OneValue_init) "OneValue" ["value"] (aCons (eVar 0) aNil)) (aCons (eExc (c .NoLookup_init) "NoLookup" ["lookup"] (aCons (eVar 0) aNil)) aNil))))))))))) (sSeq (sAsg 2 (eBin addD (eVar 2) (eFrz (fLst (aCons (eExc (c .QuietLoop_init) "QuietLoop" ["sign"] (aCons (eVar 0) aNil)) (aCons (eExc (c .NoFailing_init) "NoFailing" ["index"] (aCons (eVar 0) aNil)) (aCons (eExc (c .NoIndex_init) "NoIndex" ["index"] (aCons (eVar 0) aNil)) (aCons (eExc (c .NoPair_init) "NoPair" ["pair"] (aCons (eVar 0) aNil)) (aCons (eExc (c .NotFoldable_init) "NotFoldable" ["name"] (aCons (eVar 0) aNil)) (aCons (eExc (c .NoSpelling_init) "NoSpelling" ["word"] (aCons (eVar 0) aNil)) (aCons (eExc (c .BadName_init) "BadName" ["name"] (aCons (eVar 0) aNil)) aNil))))))))))) (sSeq (sAsg 2 (eBin addD (eVar 2) (eFrz (fLst (aCons (eExc (c .NoName_init) "NoName" ["name"] (aCons (eVar 0) aNil)) (aCons (eExc (c .BadChoice_init) "BadChoice" ["choice", "value"] (aCons (eVar 0) (aCons (eVar 1) aNil))) (aCons (eExc (c .BadPower_init) "BadPower" ["sign", "power"] (aCons (eVar 0) (aCons (eVar 1) aNil))) aNil))))))) (sRet (eBin addD (eVar 2) (eFrz (fLst (aCons (eExc0 "Contradiction") (aCons (eExc0 "HasLoop") (aCons (eExc0 "NoParting") (aCons (eExc0 "NothingDone") aNil)))))))))))
def g_l_errors (c : Fn → DF) : DF := runF 2 3 (fb_l_errors c)
def fb_l_alike (c : Fn → DF) : DS := (sRet (eAnd (eBin eqHD (eVar 0) (eVar 1)) (eBin eqE (eCB reprD (aCons (eVar 0) aNil)) (eCB reprD (aCons (eVar 1) aNil)))))
def g_l_alike (c : Fn → DF) : DF := runF 2 2 (fb_l_alike c)
def fb_l_flags (c : Fn → DF) : DS := (sSeq (sAsg 1 (eFrz (fLst (aCons (eCB (isxD (.glo "BadRow") xs_BadRow) (aCons (eVar 0) (aCons (eC (.glo "BadRow")) aNil))) (aCons (eCB (isxD (.glo "Unset") xs_Unset) (aCons (eVar 0) (aCons (eC (.glo "Unset")) aNil))) (aCons (eCB (isxD (.glo "NoRow") xs_NoRow) (aCons (eVar 0) (aCons (eC (.glo "NoRow")) aNil))) (aCons (eCB (isxD (.glo "BadLine") xs_BadLine) (aCons (eVar 0) (aCons (eC (.glo "BadLine")) aNil))) aNil))))))) (sSeq (sAsg 1 (eBin addD (eVar 1) (eFrz (fLst (aCons (eCB (isxD (.glo "NoChoice") xs_NoChoice) (aCons (eVar 0) (aCons (eC (.glo "NoChoice")) aNil))) (aCons (eCB (isxD (.glo "BadLookup") xs_BadLookup) (aCons (eVar 0) (aCons (eC (.glo "BadLookup")) aNil))) (aCons (eCB (isxD (.glo "OneValue") xs_OneValue) (aCons (eVar 0) (aCons (eC (.glo "OneValue")) aNil))) aNil))))))) (sSeq (sAsg 1 (eBin addD (eVar 1) (eFrz (fLst (aCons (eCB (isxD (.glo "NoLookup") xs_NoLookup) (aCons (eVar 0) (aCons (eC (.glo "NoLookup")) aNil))) (aCons (eCB (isxD (.glo "QuietLoop") xs_QuietLoop) (aCons (eVar 0) (aCons (eC (.glo "QuietLoop")) aNil))) (aCons (eCB (isxD (.glo "NoFailing") xs_NoFailing) (aCons (eVar 0) (aCons (eC (.glo "NoFailing")) aNil))) aNil))))))) (sSeq (sAsg 1 (eBin addD (eVar 1) (eFrz (fLst (aCons (eCB (isxD (.glo "NoIndex") xs_NoIndex) (aCons (eVar 0) (aCons (eC (.glo "NoIndex")) aNil))) (aCons (eCB (isxD (.glo "NoPair") xs_NoPair) (aCons (eVar 0) (aCons (eC (.glo "NoPair")) aNil))) (aCons (eCB (isxD (.glo "NotFoldable") xs_NotFoldable) (aCons (eVar 0) (aCons (eC (.glo "NotFoldable")) aNil))) aNil))))))) (sSeq (sAsg 1 (eBin addD (eVar 1) (eFrz (fLst (aCons (eCB (isxD (.glo "NoSpelling") xs_NoSpelling) (aCons (eVar 0) (aCons (eC (.glo "NoSpelling")) aNil))) (aCons (eCB (isxD (.glo "BadName") xs_BadName) (aCons (eVar 0) (aCons (eC (.glo "BadName")) aNil))) (aCons (eCB (isxD (.glo "NoName") xs_NoName) (aCons (eVar 0) (aCons (eC (.glo "NoName")) aNil))) aNil))))))) (sSeq (sAsg 1 (eBin addD (eVar 1) (eFrz (fLst (aCons (eCB (isxD (.glo "BadChoice") xs_BadChoice) (aCons (eVar 0) (aCons (eC (.glo "BadChoice")) aNil))) (aCons (eCB (isxD (.glo "BadPower") xs_BadPower) (aCons (eVar 0) (aCons (eC (.glo "BadPower")) aNil))) (aCons (eCB (isxD (.glo "Contradiction") xs_Contradiction) (aCons (eVar 0) (aCons (eC (.glo "Contradiction")) aNil))) aNil))))))) (sRet (eBin addD (eVar 1) (eFrz (fLst (aCons (eCB (isxD (.glo "HasLoop") xs_HasLoop) (aCons (eVar 0) (aCons (eC (.glo "HasLoop")) aNil))) (aCons (eCB (isxD (.glo "NoParting") xs_NoParting) (aCons (eVar 0) (aCons (eC (.glo "NoParting")) aNil))) (aCons (eCB (isxD (.glo "NothingDone") xs_NothingDone) (aCons (eVar 0) (aCons (eC (.glo "NothingDone")) aNil))) aNil)))))))))))))
def g_l_flags (c : Fn → DF) : DF := runF 1 2 (fb_l_flags c)
def fb_law_l0 (c : Fn → DF) : DS := (sSeq (sIf (tVal (eBin neE (eCall (c .l_flags) (aCons (eBin ixD (eVar 5) (eVar 7)) aNil)) (eFrz (fLc (iRng1' (aCons (eC (.int 22)) aNil)) (gN 10) tTrue (eBin eqE (eVar 10) (eVar 7)) [10])))) (sRet (eC (.bl false))) sNil) (sIf (tOr' (tNot' (tTru (eCB (isxD (.glo "FoundError") xs_FoundError) (aCons (eBin ixD (eVar 5) (eVar 7)) (aCons (eC (.glo "FoundError")) aNil))))) (tNot' (tTru (eCB (isxD (.ty "ValueError") xs_ValueError) (aCons (eBin ixD (eVar 5) (eVar 7)) (aCons (eC (.ty "ValueError")) aNil)))))) (sRet (eC (.bl false))) sNil))
def fb_law_l1 (c : Fn → DF) : DS := (sSeq (sIf (tTru (eCB isiD (aCons (eVar 8) (aCons (eC (.ty "list")) aNil)))) (sExpr (eHdlM appD (eVar 8) (aCons (eC (.str "more")) aNil))) sNil) (sIf (tTru (eCB isiD (aCons (eVar 8) (aCons (eC (.ty "dict")) aNil)))) (sDPutH (eVar 8) (eC (.str "more")) (eC (.int 0))) sNil))
def fb_law_l2 (c : Fn → DF) : DS := (sSeq (sPar 3 4 (aCons (eCall (c .l_any) (aCons (eVar 1) aNil)) (aCons (eCall (c .l_any) (aCons (eVar 1) aNil)) aNil))) (sSeq (sPar 5 6 (aCons (eCall (c .l_errors) (aCons (eVar 3) (aCons (eVar 4) aNil))) (aCons (eBin addD (eBin repD (eFrz (fLst (aCons (eVar 3) aNil))) (eC (.int 18))) (eBin repD (eFrz (fLst (aCons (eVar 4) aNil))) (eC (.int 2)))) aNil))) (sSeq (sFor (iRng1' (aCons (eC (.int 22)) aNil)) (gN 7) (fb_law_l0 c)) (sSeq (sIf (tNot' (tTru (eCall (c .l_alike) (aCons (eCall (c .l_fields) (aCons (eVar 5) aNil)) (aCons (eVar 6) aNil))))) (sRet (eC (.bl false))) sNil) (sSeq (sFor (iSq (eTup (aCons (eVar 3) (aCons (eVar 4) aNil)))) (gN 8) (fb_law_l1 c)) (sIf (tNot' (tTru (eCall (c .l_alike) (aCons (eCall (c .l_fields) (aCons (eVar 5) aNil)) (aCons (eVar 6) aNil))))) (sRet (eC (.bl false))) sNil))))))
def fb_law_l3 (c : Fn → DF) : DS := (sAsg 9 (eBin mulXD (eVar 9) (eVar 9)))
def fb_law (c : Fn → DF) : DS := (sSeq (sAsg 1 (eCall (c .l_bag) (aCons (eVar 0) aNil))) (sSeq (sFor (iRng1' (aCons (eC (.int 4)) aNil)) (gN 2) (fb_law_l2 c)) (sSeq (sAsg 9 (eBin (pu2 powD) (eC (.int 10)) (eC (.int 50)))) (sSeq (sFor (iRng1' (aCons (eC (.int 7)) aNil)) (gN 10) (fb_law_l3 c)) (sRet (eBin eqHD (eCall (c .l_fields) (aCons (eCall (c .l_errors) (aCons (eVar 9) (aCons (eVar 9) aNil))) aNil)) (eBin repD (eFrz (fLst (aCons (eVar 9) aNil))) (eC (.int 20)))))))))
def g_law (c : Fn → DF) : DF := runF 1 11 (fb_law c)
def step (c : Fn → DF) : Fn → DF
  | .BadRow_init => g_BadRow_init c
  | .Unset_init => g_Unset_init c
  | .NoRow_init => g_NoRow_init c
  | .BadLine_init => g_BadLine_init c
  | .NoChoice_init => g_NoChoice_init c
  | .BadLookup_init => g_BadLookup_init c
  | .OneValue_init => g_OneValue_init c
  | .NoLookup_init => g_NoLookup_init c
  | .QuietLoop_init => g_QuietLoop_init c
  | .NoFailing_init => g_NoFailing_init c
  | .NoIndex_init => g_NoIndex_init c
  | .NoPair_init => g_NoPair_init c
  | .NotFoldable_init => g_NotFoldable_init c
  | .NoSpelling_init => g_NoSpelling_init c
  | .BadName_init => g_BadName_init c
  | .NoName_init => g_NoName_init c
  | .BadChoice_init => g_BadChoice_init c
  | .BadPower_init => g_BadPower_init c
  | .l_bag => g_l_bag c
  | .l_fields => g_l_fields c
  | .l_take => g_l_take c
  | .l_any => g_l_any c
  | .l_errors => g_l_errors c
  | .l_alike => g_l_alike c
  | .l_flags => g_l_flags c
  | .law => g_law c
def calls : Nat → Fn → DF
  | 0 => fun _ => gNo
  | n + 1 => step (calls n)
theorem ev_l_bag (n : Nat) (S : Sto) (a0 : Dv) : calls (n + 1) .l_bag S [a0] = kRun (fb_l_bag (calls n) [.va a0, .no] S) := ev_run S [a0] (fb_l_bag (calls n)) 1 2 rfl
theorem ev_l_take (n : Nat) (S : Sto) (a0 a1 : Dv) : calls (n + 1) .l_take S [a0, a1] = kRun (fb_l_take (calls n) [.va a0, .va a1, .no, .no, .no, .no, .no] S) := ev_run S [a0, a1] (fb_l_take (calls n)) 2 7 rfl
theorem ev_l_any (n : Nat) (S : Sto) (a0 : Dv) : calls (n + 1) .l_any S [a0] = kRun (fb_l_any (calls n) [.va a0, .no] S) := ev_run S [a0] (fb_l_any (calls n)) 1 2 rfl
theorem ev_l_alike (n : Nat) (S : Sto) (a0 a1 : Dv) : calls (n + 1) .l_alike S [a0, a1] = kRun (fb_l_alike (calls n) [.va a0, .va a1] S) := ev_run S [a0, a1] (fb_l_alike (calls n)) 2 2 rfl
theorem ev_law (n : Nat) (S : Sto) (a0 : Dv) : calls (n + 1) .law S [a0] = kRun (fb_law (calls n) [.va a0, .no, .no, .no, .no, .no, .no, .no, .no, .no, .no] S) := ev_run S [a0] (fb_law (calls n)) 1 11 rfl
end DL
namespace DL
open PySem L2
def dnA : Nat → List Addr
  | 0 => [0]
  | n + 1 => (n + 1) :: dnA n
def adA (m : Nat) : List Addr := 3 :: 2 :: dnA m
def obsNA (m : Nat) (fa : List Ft) (fn : List Dfn) (ts : List He.Tab) (g : Addr → Option Obj) : AlN := obsN fa fn ts (He.frG g (adA m))
def hookA (m : Nat) (fa : List Ft) (fn : List Dfn) (ts : List He.Tab) : PySem.W.Hook where
  α := AlN
  obs := fun s => obsNA m fa fn ts s.heap.get?
  val := fun w => valN fn ts w
  says := fun w h => ∃ K : PySem.W.Frag, K.In h ∧ SaysN fa fn ts w K
  of := fun _ _ e => ⟨_, He.frG_in, e⟩
  keeps := fun _ _ _ ⟨K, hK, c⟩ k => ⟨K, PySem.W.Frag.In.keeps hK k, c⟩
theorem obsNA_eq {m : Nat} {fa : List Ft} {fn : List Dfn} {ts : List He.Tab} {g : Addr → Option Obj} {s : Shared} (h : ∀ a, g a = s.heap.get? a) : obsNA m fa fn ts g = (hookA m fa fn ts).obs s := by
  have e : g = s.heap.get? := funext h
  rw [e] <;> rfl
end DL
namespace Row
open PySem L2 DL
def top (i : Nat) : Stmt := PySem.Challenge.pw_foundtwice_k11_errors_apart.main.body.getD i (.Pass ⟨0, 0, 0, 0⟩)
def inr (i j : Nat) : Stmt := match top i with
  | .ClassDef _ _ _ body _ _ _ _ _ _ _ => body.getD j (.Pass ⟨0, 0, 0, 0⟩)
  | s => s
abbrev st_BadRow_init : Stmt := inr 2 0
theorem sc_BadRow_init : FnScope ["self", "path"] ["self", "path"] (defScope st_BadRow_init) := ⟨rfl, rfl, rfl, by decide +kernel, rfl, by decide +kernel, by decide +kernel⟩
theorem bi_BadRow_init : BindN "__init__" "BadRow.__init__" st_BadRow_init ["self", "path"] := fun _ _ _ _ _ _ us hl => match us, hl with | [_, _], _ => rfl
abbrev st_Unset_init : Stmt := inr 3 0
theorem sc_Unset_init : FnScope ["self", "name"] ["self", "name"] (defScope st_Unset_init) := ⟨rfl, rfl, rfl, by decide +kernel, rfl, by decide +kernel, by decide +kernel⟩
theorem bi_Unset_init : BindN "__init__" "Unset.__init__" st_Unset_init ["self", "name"] := fun _ _ _ _ _ _ us hl => match us, hl with | [_, _], _ => rfl
abbrev st_NoRow_init : Stmt := inr 4 0
theorem sc_NoRow_init : FnScope ["self", "index"] ["self", "index"] (defScope st_NoRow_init) := ⟨rfl, rfl, rfl, by decide +kernel, rfl, by decide +kernel, by decide +kernel⟩
theorem bi_NoRow_init : BindN "__init__" "NoRow.__init__" st_NoRow_init ["self", "index"] := fun _ _ _ _ _ _ us hl => match us, hl with | [_, _], _ => rfl
abbrev st_BadLine_init : Stmt := inr 5 0
theorem sc_BadLine_init : FnScope ["self", "line"] ["self", "line"] (defScope st_BadLine_init) := ⟨rfl, rfl, rfl, by decide +kernel, rfl, by decide +kernel, by decide +kernel⟩
theorem bi_BadLine_init : BindN "__init__" "BadLine.__init__" st_BadLine_init ["self", "line"] := fun _ _ _ _ _ _ us hl => match us, hl with | [_, _], _ => rfl
abbrev st_NoChoice_init : Stmt := inr 7 0
theorem sc_NoChoice_init : FnScope ["self", "choice"] ["self", "choice"] (defScope st_NoChoice_init) := ⟨rfl, rfl, rfl, by decide +kernel, rfl, by decide +kernel, by decide +kernel⟩
theorem bi_NoChoice_init : BindN "__init__" "NoChoice.__init__" st_NoChoice_init ["self", "choice"] := fun _ _ _ _ _ _ us hl => match us, hl with | [_, _], _ => rfl
abbrev st_BadLookup_init : Stmt := inr 9 0
theorem sc_BadLookup_init : FnScope ["self", "lookup"] ["self", "lookup"] (defScope st_BadLookup_init) := ⟨rfl, rfl, rfl, by decide +kernel, rfl, by decide +kernel, by decide +kernel⟩
theorem bi_BadLookup_init : BindN "__init__" "BadLookup.__init__" st_BadLookup_init ["self", "lookup"] := fun _ _ _ _ _ _ us hl => match us, hl with | [_, _], _ => rfl
abbrev st_OneValue_init : Stmt := inr 10 0
theorem sc_OneValue_init : FnScope ["self", "value"] ["self", "value"] (defScope st_OneValue_init) := ⟨rfl, rfl, rfl, by decide +kernel, rfl, by decide +kernel, by decide +kernel⟩
theorem bi_OneValue_init : BindN "__init__" "OneValue.__init__" st_OneValue_init ["self", "value"] := fun _ _ _ _ _ _ us hl => match us, hl with | [_, _], _ => rfl
abbrev st_NoLookup_init : Stmt := inr 11 0
theorem sc_NoLookup_init : FnScope ["self", "lookup"] ["self", "lookup"] (defScope st_NoLookup_init) := ⟨rfl, rfl, rfl, by decide +kernel, rfl, by decide +kernel, by decide +kernel⟩
theorem bi_NoLookup_init : BindN "__init__" "NoLookup.__init__" st_NoLookup_init ["self", "lookup"] := fun _ _ _ _ _ _ us hl => match us, hl with | [_, _], _ => rfl
abbrev st_QuietLoop_init : Stmt := inr 12 0
theorem sc_QuietLoop_init : FnScope ["self", "sign"] ["self", "sign"] (defScope st_QuietLoop_init) := ⟨rfl, rfl, rfl, by decide +kernel, rfl, by decide +kernel, by decide +kernel⟩
theorem bi_QuietLoop_init : BindN "__init__" "QuietLoop.__init__" st_QuietLoop_init ["self", "sign"] := fun _ _ _ _ _ _ us hl => match us, hl with | [_, _], _ => rfl
abbrev st_NoFailing_init : Stmt := inr 13 0
theorem sc_NoFailing_init : FnScope ["self", "index"] ["self", "index"] (defScope st_NoFailing_init) := ⟨rfl, rfl, rfl, by decide +kernel, rfl, by decide +kernel, by decide +kernel⟩
theorem bi_NoFailing_init : BindN "__init__" "NoFailing.__init__" st_NoFailing_init ["self", "index"] := fun _ _ _ _ _ _ us hl => match us, hl with | [_, _], _ => rfl
abbrev st_NoIndex_init : Stmt := inr 17 0
theorem sc_NoIndex_init : FnScope ["self", "index"] ["self", "index"] (defScope st_NoIndex_init) := ⟨rfl, rfl, rfl, by decide +kernel, rfl, by decide +kernel, by decide +kernel⟩
theorem bi_NoIndex_init : BindN "__init__" "NoIndex.__init__" st_NoIndex_init ["self", "index"] := fun _ _ _ _ _ _ us hl => match us, hl with | [_, _], _ => rfl
abbrev st_NoPair_init : Stmt := inr 18 0
theorem sc_NoPair_init : FnScope ["self", "pair"] ["self", "pair"] (defScope st_NoPair_init) := ⟨rfl, rfl, rfl, by decide +kernel, rfl, by decide +kernel, by decide +kernel⟩
theorem bi_NoPair_init : BindN "__init__" "NoPair.__init__" st_NoPair_init ["self", "pair"] := fun _ _ _ _ _ _ us hl => match us, hl with | [_, _], _ => rfl
abbrev st_NotFoldable_init : Stmt := inr 19 0
theorem sc_NotFoldable_init : FnScope ["self", "name"] ["self", "name"] (defScope st_NotFoldable_init) := ⟨rfl, rfl, rfl, by decide +kernel, rfl, by decide +kernel, by decide +kernel⟩
theorem bi_NotFoldable_init : BindN "__init__" "NotFoldable.__init__" st_NotFoldable_init ["self", "name"] := fun _ _ _ _ _ _ us hl => match us, hl with | [_, _], _ => rfl
abbrev st_NoSpelling_init : Stmt := inr 20 0
theorem sc_NoSpelling_init : FnScope ["self", "word"] ["self", "word"] (defScope st_NoSpelling_init) := ⟨rfl, rfl, rfl, by decide +kernel, rfl, by decide +kernel, by decide +kernel⟩
theorem bi_NoSpelling_init : BindN "__init__" "NoSpelling.__init__" st_NoSpelling_init ["self", "word"] := fun _ _ _ _ _ _ us hl => match us, hl with | [_, _], _ => rfl
abbrev st_BadName_init : Stmt := inr 21 0
theorem sc_BadName_init : FnScope ["self", "name"] ["self", "name"] (defScope st_BadName_init) := ⟨rfl, rfl, rfl, by decide +kernel, rfl, by decide +kernel, by decide +kernel⟩
theorem bi_BadName_init : BindN "__init__" "BadName.__init__" st_BadName_init ["self", "name"] := fun _ _ _ _ _ _ us hl => match us, hl with | [_, _], _ => rfl
abbrev st_NoName_init : Stmt := inr 22 0
theorem sc_NoName_init : FnScope ["self", "name"] ["self", "name"] (defScope st_NoName_init) := ⟨rfl, rfl, rfl, by decide +kernel, rfl, by decide +kernel, by decide +kernel⟩
theorem bi_NoName_init : BindN "__init__" "NoName.__init__" st_NoName_init ["self", "name"] := fun _ _ _ _ _ _ us hl => match us, hl with | [_, _], _ => rfl
abbrev st_BadChoice_init : Stmt := inr 6 0
theorem sc_BadChoice_init : FnScope ["self", "choice", "value"] ["self", "choice", "value"] (defScope st_BadChoice_init) := ⟨rfl, rfl, rfl, by decide +kernel, rfl, by decide +kernel, by decide +kernel⟩
theorem bi_BadChoice_init : BindN "__init__" "BadChoice.__init__" st_BadChoice_init ["self", "choice", "value"] := fun _ _ _ _ _ _ us hl => match us, hl with | [_, _, _], _ => rfl
abbrev st_BadPower_init : Stmt := inr 8 0
theorem sc_BadPower_init : FnScope ["self", "sign", "power"] ["self", "sign", "power"] (defScope st_BadPower_init) := ⟨rfl, rfl, rfl, by decide +kernel, rfl, by decide +kernel, by decide +kernel⟩
theorem bi_BadPower_init : BindN "__init__" "BadPower.__init__" st_BadPower_init ["self", "sign", "power"] := fun _ _ _ _ _ _ us hl => match us, hl with | [_, _, _], _ => rfl
abbrev st_l_bag : Stmt := top 25
theorem sc_l_bag : FnScope ["_law_script", "_law_cell"] ["_law_script"] (defScope st_l_bag) := ⟨rfl, rfl, rfl, by decide +kernel, rfl, by decide +kernel, by decide +kernel⟩
theorem bi_l_bag : BindN "_law_bag" "_law_bag" st_l_bag ["_law_script"] := fun _ _ _ _ _ _ us hl => match us, hl with | [_], _ => rfl
abbrev st_l_fields : Stmt := top 30
theorem sc_l_fields : FnScope ["_law_some", "_law_found"] ["_law_some"] (defScope st_l_fields) := ⟨rfl, rfl, rfl, by decide +kernel, rfl, by decide +kernel, by decide +kernel⟩
theorem bi_l_fields : BindN "_law_fields" "_law_fields" st_l_fields ["_law_some"] := fun _ _ _ _ _ _ us hl => match us, hl with | [_], _ => rfl
abbrev st_l_take : Stmt := top 26
theorem sc_l_take : FnScope ["_law_bag_here", "_law_many", "_law_cell", "_law_mixed", "_law_drawn", "_law_early", "_law_second"] ["_law_bag_here", "_law_many"] (defScope st_l_take) := ⟨rfl, rfl, rfl, by decide +kernel, rfl, by decide +kernel, by decide +kernel⟩
theorem bi_l_take : BindN "_law_take" "_law_take" st_l_take ["_law_bag_here", "_law_many"] := fun _ _ _ _ _ _ us hl => match us, hl with | [_, _], _ => rfl
abbrev st_l_any : Stmt := top 31
theorem sc_l_any : FnScope ["_law_bag_here", "_law_some"] ["_law_bag_here"] (defScope st_l_any) := ⟨rfl, rfl, rfl, by decide +kernel, rfl, by decide +kernel, by decide +kernel⟩
theorem bi_l_any : BindN "_law_any" "_law_any" st_l_any ["_law_bag_here"] := fun _ _ _ _ _ _ us hl => match us, hl with | [_], _ => rfl
abbrev st_l_errors : Stmt := top 28
theorem sc_l_errors : FnScope ["_law_x", "_law_y", "_law_found"] ["_law_x", "_law_y"] (defScope st_l_errors) := ⟨rfl, rfl, rfl, by decide +kernel, rfl, by decide +kernel, by decide +kernel⟩
theorem bi_l_errors : BindN "_law_errors" "_law_errors" st_l_errors ["_law_x", "_law_y"] := fun _ _ _ _ _ _ us hl => match us, hl with | [_, _], _ => rfl
abbrev st_l_alike : Stmt := top 27
theorem sc_l_alike : FnScope ["_law_found", "_law_due"] ["_law_found", "_law_due"] (defScope st_l_alike) := ⟨rfl, rfl, rfl, by decide +kernel, rfl, by decide +kernel, by decide +kernel⟩
theorem bi_l_alike : BindN "_law_alike" "_law_alike" st_l_alike ["_law_found", "_law_due"] := fun _ _ _ _ _ _ us hl => match us, hl with | [_, _], _ => rfl
abbrev st_l_flags : Stmt := top 29
theorem sc_l_flags : FnScope ["_law_e", "_law_found"] ["_law_e"] (defScope st_l_flags) := ⟨rfl, rfl, rfl, by decide +kernel, rfl, by decide +kernel, by decide +kernel⟩
theorem bi_l_flags : BindN "_law_flags" "_law_flags" st_l_flags ["_law_e"] := fun _ _ _ _ _ _ us hl => match us, hl with | [_], _ => rfl
abbrev st_law : Stmt := top 32
theorem sc_law : FnScope ["_law_script", "_law_bag_here", "_law_turn", "_law_x", "_law_y", "_law_some", "_law_due", "_law_at", "_law_thing", "_law_great", "_law_k"] ["_law_script"] (defScope st_law) := ⟨rfl, rfl, rfl, by decide +kernel, rfl, by decide +kernel, by decide +kernel⟩
theorem bi_law : BindN "law" "law" st_law ["_law_script"] := fun _ _ _ _ _ _ us hl => match us, hl with | [_], _ => rfl
def dd_BadRow_init : Dfn := ⟨fun K => He.ma K (He.ga K "BadRow") "__init__", "__init__", "BadRow.__init__", defArgs st_BadRow_init, defBody st_BadRow_init, defScope st_BadRow_init, [], []⟩
def dd_Unset_init : Dfn := ⟨fun K => He.ma K (He.ga K "Unset") "__init__", "__init__", "Unset.__init__", defArgs st_Unset_init, defBody st_Unset_init, defScope st_Unset_init, [], []⟩
def dd_NoRow_init : Dfn := ⟨fun K => He.ma K (He.ga K "NoRow") "__init__", "__init__", "NoRow.__init__", defArgs st_NoRow_init, defBody st_NoRow_init, defScope st_NoRow_init, [], []⟩
def dd_BadLine_init : Dfn := ⟨fun K => He.ma K (He.ga K "BadLine") "__init__", "__init__", "BadLine.__init__", defArgs st_BadLine_init, defBody st_BadLine_init, defScope st_BadLine_init, [], []⟩
def dd_NoChoice_init : Dfn := ⟨fun K => He.ma K (He.ga K "NoChoice") "__init__", "__init__", "NoChoice.__init__", defArgs st_NoChoice_init, defBody st_NoChoice_init, defScope st_NoChoice_init, [], []⟩
def dd_BadLookup_init : Dfn := ⟨fun K => He.ma K (He.ga K "BadLookup") "__init__", "__init__", "BadLookup.__init__", defArgs st_BadLookup_init, defBody st_BadLookup_init, defScope st_BadLookup_init, [], []⟩
def dd_OneValue_init : Dfn := ⟨fun K => He.ma K (He.ga K "OneValue") "__init__", "__init__", "OneValue.__init__", defArgs st_OneValue_init, defBody st_OneValue_init, defScope st_OneValue_init, [], []⟩
def dd_NoLookup_init : Dfn := ⟨fun K => He.ma K (He.ga K "NoLookup") "__init__", "__init__", "NoLookup.__init__", defArgs st_NoLookup_init, defBody st_NoLookup_init, defScope st_NoLookup_init, [], []⟩
def dd_QuietLoop_init : Dfn := ⟨fun K => He.ma K (He.ga K "QuietLoop") "__init__", "__init__", "QuietLoop.__init__", defArgs st_QuietLoop_init, defBody st_QuietLoop_init, defScope st_QuietLoop_init, [], []⟩
def dd_NoFailing_init : Dfn := ⟨fun K => He.ma K (He.ga K "NoFailing") "__init__", "__init__", "NoFailing.__init__", defArgs st_NoFailing_init, defBody st_NoFailing_init, defScope st_NoFailing_init, [], []⟩
def dd_NoIndex_init : Dfn := ⟨fun K => He.ma K (He.ga K "NoIndex") "__init__", "__init__", "NoIndex.__init__", defArgs st_NoIndex_init, defBody st_NoIndex_init, defScope st_NoIndex_init, [], []⟩
def dd_NoPair_init : Dfn := ⟨fun K => He.ma K (He.ga K "NoPair") "__init__", "__init__", "NoPair.__init__", defArgs st_NoPair_init, defBody st_NoPair_init, defScope st_NoPair_init, [], []⟩
def dd_NotFoldable_init : Dfn := ⟨fun K => He.ma K (He.ga K "NotFoldable") "__init__", "__init__", "NotFoldable.__init__", defArgs st_NotFoldable_init, defBody st_NotFoldable_init, defScope st_NotFoldable_init, [], []⟩
def dd_NoSpelling_init : Dfn := ⟨fun K => He.ma K (He.ga K "NoSpelling") "__init__", "__init__", "NoSpelling.__init__", defArgs st_NoSpelling_init, defBody st_NoSpelling_init, defScope st_NoSpelling_init, [], []⟩
def dd_BadName_init : Dfn := ⟨fun K => He.ma K (He.ga K "BadName") "__init__", "__init__", "BadName.__init__", defArgs st_BadName_init, defBody st_BadName_init, defScope st_BadName_init, [], []⟩
def dd_NoName_init : Dfn := ⟨fun K => He.ma K (He.ga K "NoName") "__init__", "__init__", "NoName.__init__", defArgs st_NoName_init, defBody st_NoName_init, defScope st_NoName_init, [], []⟩
def dd_BadChoice_init : Dfn := ⟨fun K => He.ma K (He.ga K "BadChoice") "__init__", "__init__", "BadChoice.__init__", defArgs st_BadChoice_init, defBody st_BadChoice_init, defScope st_BadChoice_init, [], []⟩
def dd_BadPower_init : Dfn := ⟨fun K => He.ma K (He.ga K "BadPower") "__init__", "__init__", "BadPower.__init__", defArgs st_BadPower_init, defBody st_BadPower_init, defScope st_BadPower_init, [], []⟩
def dd_l_bag : Dfn := ⟨fun K => He.ga K "_law_bag", "_law_bag", "_law_bag", defArgs st_l_bag, defBody st_l_bag, defScope st_l_bag, [], []⟩
def dd_l_fields : Dfn := ⟨fun K => He.ga K "_law_fields", "_law_fields", "_law_fields", defArgs st_l_fields, defBody st_l_fields, defScope st_l_fields, [], []⟩
def dd_l_take : Dfn := ⟨fun K => He.ga K "_law_take", "_law_take", "_law_take", defArgs st_l_take, defBody st_l_take, defScope st_l_take, [], []⟩
def dd_l_any : Dfn := ⟨fun K => He.ga K "_law_any", "_law_any", "_law_any", defArgs st_l_any, defBody st_l_any, defScope st_l_any, [], []⟩
def dd_l_errors : Dfn := ⟨fun K => He.ga K "_law_errors", "_law_errors", "_law_errors", defArgs st_l_errors, defBody st_l_errors, defScope st_l_errors, [], []⟩
def dd_l_alike : Dfn := ⟨fun K => He.ga K "_law_alike", "_law_alike", "_law_alike", defArgs st_l_alike, defBody st_l_alike, defScope st_l_alike, [], []⟩
def dd_l_flags : Dfn := ⟨fun K => He.ga K "_law_flags", "_law_flags", "_law_flags", defArgs st_l_flags, defBody st_l_flags, defScope st_l_flags, [], []⟩
def dd_law : Dfn := ⟨fun K => He.ga K "law", "law", "law", defArgs st_law, defBody st_law, defScope st_law, [], []⟩
def fn : List Dfn := [dd_BadRow_init, dd_Unset_init, dd_NoRow_init, dd_BadLine_init, dd_NoChoice_init, dd_BadLookup_init, dd_OneValue_init, dd_NoLookup_init, dd_QuietLoop_init, dd_NoFailing_init, dd_NoIndex_init, dd_NoPair_init, dd_NotFoldable_init, dd_NoSpelling_init, dd_BadName_init, dd_NoName_init, dd_BadChoice_init, dd_BadPower_init, dd_l_bag, dd_l_fields, dd_l_take, dd_l_any, dd_l_errors, dd_l_alike, dd_l_flags, dd_law]
def ts : List He.Tab := []
def fa0 : List Ft := [.free "ValueError", .free "abs", .free "dict", .free "int", .free "isinstance", .free "len", .free "list", .free "range", .free "repr", .glo "_law_bag", .glo "_law_fields", .glo "_law_take", .glo "_law_any", .glo "_law_errors", .glo "_law_alike", .glo "_law_flags", .glo "law", .glo "BadChoice", .glo "BadLine", .glo "BadLookup"]
def fa1 : List Ft := [.glo "BadName", .glo "BadPower", .glo "BadRow", .glo "Contradiction", .glo "FoundError", .glo "HasLoop", .glo "NoChoice", .glo "NoFailing", .glo "NoIndex", .glo "NoLookup", .glo "NoName", .glo "NoPair", .glo "NoParting", .glo "NoRow", .glo "NoSpelling", .glo "NotFoldable", .glo "NothingDone", .glo "OneValue", .glo "QuietLoop", .glo "Unset"]
def fa2 : List Ft := [feB "FoundError", xcB "BadRow" ["path"], xcB "Unset" ["name"], xcB "NoRow" ["index"], xcB "BadLine" ["line"], xcB "NoChoice" ["choice"], xcB "BadLookup" ["lookup"], xcB "OneValue" ["value"], xcB "NoLookup" ["lookup"], xcB "QuietLoop" ["sign"], xcB "NoFailing" ["index"], xcB "NoIndex" ["index"], xcB "NoPair" ["pair"], xcB "NotFoldable" ["name"], xcB "NoSpelling" ["word"], xcB "BadName" ["name"], xcB "NoName" ["name"], xcB "BadChoice" ["choice", "value"], xcB "BadPower" ["sign", "power"], xtB xtab]
def fa3 : List Ft := [xzB "Contradiction", xzB "HasLoop", xzB "NoParting", xzB "NothingDone", isxB (.glo "BadChoice") xs_BadChoice, isxB (.glo "BadLine") xs_BadLine, isxB (.glo "BadLookup") xs_BadLookup, isxB (.glo "BadName") xs_BadName, isxB (.glo "BadPower") xs_BadPower, isxB (.glo "BadRow") xs_BadRow, isxB (.glo "Contradiction") xs_Contradiction, isxB (.glo "FoundError") xs_FoundError, isxB (.glo "HasLoop") xs_HasLoop, isxB (.glo "NoChoice") xs_NoChoice, isxB (.glo "NoFailing") xs_NoFailing, isxB (.glo "NoIndex") xs_NoIndex, isxB (.glo "NoLookup") xs_NoLookup, isxB (.glo "NoName") xs_NoName, isxB (.glo "NoPair") xs_NoPair, isxB (.glo "NoParting") xs_NoParting]
def fa4 : List Ft := [isxB (.glo "NoRow") xs_NoRow, isxB (.glo "NoSpelling") xs_NoSpelling, isxB (.glo "NotFoldable") xs_NotFoldable, isxB (.glo "NothingDone") xs_NothingDone, isxB (.glo "OneValue") xs_OneValue, isxB (.glo "QuietLoop") xs_QuietLoop, isxB (.glo "Unset") xs_Unset, isxB (.ty "ValueError") xs_ValueError]
def fa : List Ft := fa0 ++ fa1 ++ fa2 ++ fa3 ++ fa4
def loose0 : List PySem.Str := ["FoundError", "BadRow", "Unset", "NoRow", "BadLine", "BadChoice", "NoChoice", "BadPower", "BadLookup", "OneValue", "NoLookup", "QuietLoop", "NoFailing", "Contradiction", "HasLoop", "NoParting", "NoIndex", "NoPair", "NotFoldable", "NoSpelling"]
def loose1 : List PySem.Str := ["BadName", "NoName", "NothingDone", "_law_bag", "_law_take", "_law_alike", "_law_errors", "_law_flags", "_law_fields", "_law_any"]
def loose : List PySem.Str := loose0 ++ loose1
abbrev R : PySem.W.OpenRow := PySem.W.OpenLaw.row PySem.Challenge.rw_foundtwice_k11_errors_apart
abbrev hk : PySem.W.Hook := hookA 900 fa fn ts
def ob (s : PySem.W.SharedT) : AlN := obsNA 900 fa fn ts (HandSHeadRun.getT s)
theorem ob_eq (s : PySem.W.SharedT) : ob s = hk.obs s.abs := obsNA_eq (HandSHeadRun.getT_eq s)
theorem map3 {A B C D : Type} {x : Option A} {f : A → B} {g : A → C} {h : A → D} {a : B} {b : C} {c : D} (h1 : x.map f = some a) (h2 : x.map g = some b) (h3 : x.map h = some c) : x.map (fun s => (f s, g s, h s)) = some (a, b, c) := by
  cases x with
  | none => cases h1
  | some s =>
    injection h1 with h1
    injection h2 with h2
    injection h3 with h3
    show some (f s, g s, h s) = _
    rw [h1, h2, h3]
open PySem.W PySem.Calls PyProof.Rows in
theorem run_w1 (w : World) (os : OsState) : (HandSHeadRun.endF (HandSHeadRun.stepQ (HandSHeadRun.denQ HandSHeadRun.tabQ) R.prog w) 20000 R.prog w os).map (fun s => HandSHeadRun.looksF R.prog (boot_heap (w).params) s.abs) = some true := by
  kernel_rfl
open PySem.W PySem.Calls PyProof.Rows in
theorem run_w2 (w : World) (os : OsState) : (HandSHeadRun.endF (HandSHeadRun.stepQ (HandSHeadRun.denQ HandSHeadRun.tabQ) R.prog w) 20000 R.prog w os).map (fun s => HandSHeadRun.seenQ (PySem.W.view R.prog [32]) loose (importedModules R.prog.main.body) (fun s => xlAt (PySem.W.view R.prog [32]) [] s && recOk R.toRowW.records s) s.abs) = some (openGood (PySem.W.view R.prog [32]) loose) := by
  kernel_rfl
open PySem.W PySem.Calls PyProof.Rows in
theorem run_w3 (w : World) (os : OsState) : (HandSHeadRun.endF (HandSHeadRun.stepQ (HandSHeadRun.denQ HandSHeadRun.tabQ) R.prog w) 20000 R.prog w os).map (fun s => ob s) = some (hk.val w) := by
  kernel_rfl
theorem run_w (w : World) : HandSHeadRun.RunEq R (PySem.W.view R.prog [32]) hk ob 20000 loose w := fun os => map3 (run_w1 w os) (run_w2 w os) (run_w3 w os)
theorem run (w : World) : HandSHeadRun.RunEq R (PySem.W.view R.prog [32]) hk ob 20000 loose w := run_w w
end Row
namespace DL
open PySem L2
/-- plain things: a text is short -/
def PlK : Dv → Prop
  | .non => True
  | .bl _ => True
  | .int _ => True
  | .str x => x.length ≤ 16777216
  | .tup _ => True
  | .lst _ => True
  | .dic _ => True
  | _ => False
def Dt : Nat → Dv → Prop
  | 0, .tup _ => False
  | 0, .lst _ => False
  | n + 1, .tup l => l.length ≤ 10000000 ∧ ∀ x ∈ l, Dt n x
  | n + 1, .lst l => l.length ≤ 10000000 ∧ ∀ x ∈ l, Dt n x
  | _, d => PlK d
def sq : Dv → Option (List Dv)
  | .tup l => some l
  | .lst l => some l
  | _ => none
theorem Dt.up {n : Nat} : ∀ {d : Dv}, Dt n d → Dt (n + 1) d := by
  induction n with
  | zero =>
    intro d h
    cases d with
    | tup l => exact h.elim
    | lst l => exact h.elim
    | _ => exact h
  | succ n ih =>
    intro d h
    cases d with
    | tup l => exact ⟨h.1, fun x hx => ih (h.2 x hx)⟩
    | lst l => exact ⟨h.1, fun x hx => ih (h.2 x hx)⟩
    | _ => exact h
theorem Dt.seq {n : Nat} {d : Dv} {l : List Dv} (h : Dt n d) (e : sq d = some l) : ∃ m, n = m + 1 ∧ l.length ≤ 10000000 ∧ ∀ x ∈ l, Dt m x := by
  cases d with
  | tup l' =>
    cases e
    cases n with
    | zero => exact h.elim
    | succ n => exact ⟨n, rfl, h.1, h.2⟩
  | lst l' =>
    cases e
    cases n with
    | zero => exact h.elim
    | succ n => exact ⟨n, rfl, h.1, h.2⟩
  | _ => cases e
theorem tf_len : ∀ (ts : List Str) (k : Nat) (acc : Str), (textFrom k acc ts).length ≤ acc.length + piled ts
  | [], k, acc => by simp [textFrom, piled]
  | t :: r, k, acc => by
    have ih := tf_len r (k + 1) (acc ++ (if k > 0 then ", " else "" : String) ++ t)
    have e : (textFrom k acc (t :: r)) = textFrom (k + 1) (acc ++ (if k > 0 then ", " else "" : String) ++ t) r := rfl
    rw [e]
    have e2 : ((if k > 0 then ", " else "" : String) : Str).length ≤ 2 := by
      split
      · exact Nat.le_of_eq (by decide +kernel)
      · exact Nat.le_trans (Nat.le_of_eq (by decide +kernel)) (Nat.zero_le 2)
    rw [strLen_append, strLen_append] at ih
    have e3 : piled (t :: r) = t.length + 2 + piled r := by simp [piled]
    omega
theorem lt_len (ts : List Str) : (listText ts).length ≤ piled ts + 2 := by
  unfold listText
  rw [strLen_append]
  have := tf_len ts 0 "["
  have e1 : ("[" : Str).length = 1 := by decide +kernel
  have e2 : ("]" : Str).length = 1 := by decide +kernel
  omega
/-- d is read as p in every store -/
def Rs (d : Dv) (p : PyData) : Prop := ∀ m S, toQ (deref m S d) = some p
/-- a leaf -/
def Leaf (d : Dv) : Prop := PlK d ∧ sq d = none ∧ ∃ p, Rs d p ∧ p.showable = true ∧ p.depth ≤ 1 ∧ p.shown.length ≤ 100
mutual
inductive Tr : Nat → Nat → Dv → Prop
  | leaf {n w : Nat} {d : Dv} : Leaf d → 100 ≤ w → Tr n w d
  | seq {n w v : Nat} {d : Dv} {l : List Dv} : (d = .tup l ∨ d = .lst l) → TrL n w l → w + 3 ≤ v → Tr (n + 1) v d
inductive TrL : Nat → Nat → List Dv → Prop
  | nil {n w : Nat} : TrL n w []
  | cons {n w v u : Nat} {d : Dv} {l : List Dv} : Tr n w d → TrL n v l → w + v + 2 ≤ u → TrL n u (d :: l)
end
theorem TrL.len : ∀ {n w : Nat} {l : List Dv}, TrL n w l → 2 * l.length ≤ w
  | _, _, _, .nil => Nat.zero_le _
  | _, _, _, .cons _ t h => by
    have := t.len
    simp only [List.length_cons]
    omega
mutual
theorem Tr.mono : ∀ {n w : Nat} {d : Dv} {n' w' : Nat}, Tr n w d → n ≤ n' → w ≤ w' → Tr n' w' d
  | _, _, _, _, _, .leaf h h1, _, h2 => .leaf h (Nat.le_trans h1 h2)
  | n + 1, _, _, n' + 1, _, .seq hd t h, h1, h2 => .seq hd (t.mono (Nat.le_of_succ_le_succ h1) (Nat.le_refl _)) (Nat.le_trans h h2)
theorem TrL.mono : ∀ {n w : Nat} {l : List Dv} {n' w' : Nat}, TrL n w l → n ≤ n' → w ≤ w' → TrL n' w' l
  | _, _, _, _, _, .nil, _, _ => .nil
  | _, _, _, _, _, .cons h t hw, h1, h2 => .cons (h.mono h1 (Nat.le_refl _)) (t.mono h1 (Nat.le_refl _)) (Nat.le_trans hw h2)
end
theorem TrL.app : ∀ {n w v : Nat} {l m : List Dv}, TrL n w l → TrL n v m → TrL n (w + v) (l ++ m)
  | _, _, _, _, _, .nil, h => h.mono (Nat.le_refl _) (by omega)
  | _, _, _, _, _, .cons a t hw, h => .cons a (t.app h) (by omega)
theorem toQs_cons {d : Dv} {l : List Dv} {p : PyData} {ps : List PyData} (h1 : toQ d = some p) (h2 : toQs l = some ps) : toQs (d :: l) = some (p :: ps) := by
  unfold toQs
  rw [h1, h2]
  rfl
theorem atI_r {γ : Type} {l : List γ} {r : Int} (h0 : 0 ≤ r) (h1 : r < l.length) : ∃ d, atI l r = some d ∧ d ∈ l := by
  have hr : r.toNat < l.length := by omega
  exact ⟨l[r.toNat], by unfold atI; rw [ixN_ok h0 h1]; simp [hr], List.getElem_mem hr⟩
end DL
namespace DL
open PySem L2
def bagOb (c0 c1 c2 : Int) (cells : List Int) : Ob := .lst [.int c0, .int c1, .int c2, .lst (cells.map Dv.int)]
def BagOk (o : Ob) : Prop := ∃ (c0 c1 c2 : Int) (cells : List Int), o = bagOb c0 c1 c2 cells ∧ 0 ≤ c0 ∧ 0 ≤ c1 ∧ c1 < 2147483647 ∧ 0 ≤ c2 ∧ ∀ c ∈ cells, 0 ≤ c
def BagAt (S : Sto) (b : Nat) : Prop := ∃ o, S[b]? = some o ∧ BagOk o
theorem take_ok (m : Nat) {S : Sto} {b : Nat} {n : Int} (hB : BagAt S b) (hn : 0 < n) (hn2 : n < 1073741824) : ∃ r o, calls (m + 1) .l_take S [.hdl b, .int n] = .ok (.int r) (S.set b o) ∧ 0 ≤ r ∧ r < n ∧ BagOk o := by
  obtain ⟨o, h, c0, c1, c2, cells, rfl, k0, k1, k2, k3, k4⟩ := hB
  have hset : ∀ x : Ob, (S.set b x)[b]? = some x := fun x => by rw [List.getElem?_set, if_pos rfl, if_pos (List.getElem?_eq_some_iff.mp h).1]
  have nl : (0 : Int) ≤ c2 + 1 := by omega
  have hm : ∀ x : Int, 0 ≤ x % n ∧ x % n < n := fun x => ⟨Int.emod_nonneg _ (by omega), Int.emod_lt_of_pos _ hn⟩
  have hp : ∀ x : Int, 0 ≤ x % 2147483647 ∧ x % 2147483647 < 2147483647 := fun x => ⟨Int.emod_nonneg _ (by decide), Int.emod_lt_of_pos _ (by decide)⟩
  have hd : ∀ x : Int, 0 ≤ x → 0 ≤ x / n := fun x hx => Int.ediv_nonneg hx (by omega)
  unfold bagOb at h
  by_cases h0 : c0 = 0
  · subst h0
    have mul1 : -(2 ^ 64) < c1 ∧ c1 < 2 ^ 64 := by omega
    have cell : ∃ c : Int, 0 ≤ c ∧ ((c2 < (cells.length : Int) ∧ atI (cells.map Dv.int) c2 = some (.int c)) ∨ (¬ c2 < (cells.length : Int) ∧ c = 0)) := by
      by_cases hl : c2 < (cells.length : Int)
      · have hl2 : c2.toNat < cells.length := by omega
        exact ⟨cells[c2.toNat], k4 _ (List.getElem_mem hl2), .inl ⟨hl, by unfold atI; rw [List.length_map, ixN_ok k3 hl]; simp [hl2]⟩⟩
      · exact ⟨0, Int.le_refl _, .inr ⟨hl, rfl⟩⟩
    obtain ⟨c, hc, hcell⟩ := cell
    by_cases hbig : 1000000000000000000 ≤ c
    · have c0p : (0 : Int) < c := by omega
      refine ⟨c % n, bagOb (c / n) ((c1 * 48271 + c % 2147483647 + 7919 * (c2 + 1)) % 2147483647) (c2 + 1) cells, ?_, (hm c).1, (hm c).2, _, _, _, _, rfl, hd c hc, (hp _).1, (hp _).2, nl, k4⟩
      unfold bagOb
      rcases hcell with ⟨hl, e⟩ | ⟨hl, e⟩
      · simp [ev_l_take, fb_l_take, op_mul_i, op_mod_i, op_fdiv_i, hn, hn2, ixN_ok, h, hl, hset, hbig, k3, c0p, mul1, e]
      · subst e
        omega
    · have key : ∃ c1' : Int, 0 ≤ c1' ∧ c1' < 2147483647 ∧ calls (m + 1) .l_take S [.hdl b, .int n] = .ok (.int (((((c1' + 1) * 39373 % 1000000007) * ((c1' + 1) * 39373 % 1000000007) % 998244353 * 30011) % 998244353) / 7 % n)) (S.set b (bagOb 0 c1' (c2 + 1) cells)) := by
        refine ⟨(c1 * 48271 + c % 2147483647 + 7919 * (c2 + 1)) % 2147483647, (hp _).1, (hp _).2, ?_⟩
        obtain ⟨q1, q2⟩ := hp (c1 * 48271 + c % 2147483647 + 7919 * (c2 + 1))
        have nbig : ¬ (1000000000000000000 ≤ c) := hbig
        rcases hcell with ⟨hl, e⟩ | ⟨hl, e⟩
        · unfold bagOb
          generalize hw : (c1 * 48271 + c % 2147483647 + 7919 * (c2 + 1)) % 2147483647 = w1 at *
          have m1 : -(2 ^ 64) < w1 + 1 ∧ w1 + 1 < 2 ^ 64 := by omega
          have m2 : -(2 ^ 64) < (w1 + 1) * 39373 % 1000000007 ∧ (w1 + 1) * 39373 % 1000000007 < 2 ^ 64 := by omega
          have m3 := fun S' : Sto => op_mul_i S' _ ((w1 + 1) * 39373 % 1000000007) (.inl m2)
          simp [ev_l_take, fb_l_take, op_mul_i, op_mod_i, op_fdiv_i, hn, hn2, ixN_ok, h, hl, hset, nbig, k3, mul1, e, hw, m1, m3]
        · subst e
          unfold bagOb
          generalize hw : (c1 * 48271 + (0 : Int) % 2147483647 + 7919 * (c2 + 1)) % 2147483647 = w1 at *
          have m1 : -(2 ^ 64) < w1 + 1 ∧ w1 + 1 < 2 ^ 64 := by omega
          have m2 : -(2 ^ 64) < (w1 + 1) * 39373 % 1000000007 ∧ (w1 + 1) * 39373 % 1000000007 < 2 ^ 64 := by omega
          have m3 := fun S' : Sto => op_mul_i S' _ ((w1 + 1) * 39373 % 1000000007) (.inl m2)
          have hw2 : (c1 * 48271 + 7919 * (c2 + 1)) % 2147483647 = w1 := by rw [← hw]; simp
          simp [ev_l_take, fb_l_take, op_mul_i, op_mod_i, op_fdiv_i, hn, hn2, ixN_ok, h, hl, hset, k3, mul1, hw2, m1, m3]
      obtain ⟨c1', w1, w2, e⟩ := key
      exact ⟨_, _, e, (hm _).1, (hm _).2, _, _, _, _, rfl, Int.le_refl _, w1, w2, nl, k4⟩
  · have h1 : 0 < c0 := by omega
    refine ⟨c0 % n, bagOb (c0 / n) c1 c2 cells, ?_, (hm c0).1, (hm c0).2, _, _, _, _, rfl, hd c0 k0, k1, k2, k3, k4⟩
    unfold bagOb
    simp [ev_l_take, fb_l_take, op_mul_i, op_mod_i, op_fdiv_i, hn, hn2, ixN_ok, h, h0, h1]
theorem cutG_map {α β : Type} (f : α → β) (l : List α) (lo hi : Option Int) : cutG (l.map f) lo hi = (cutG l lo hi).map f := by
  unfold cutG
  rw [List.length_map, List.map_take, List.map_drop]
theorem cutG_len {α : Type} (l : List α) (lo hi : Option Int) : (cutG l lo hi).length ≤ l.length := by
  unfold cutG
  rw [List.length_take, List.length_drop]
  omega
theorem lc_abs (x : Sl) (S : Sto) : ∀ ms : List Int, lcR (gN 1) tTrue (eCB absD (aCons (eVar 1) aNil)) [x, .no] (ms.map Dv.int) S = .ok ((ms.map fun m => if m < 0 then -m else m).map Dv.int) S
  | [] => rfl
  | m :: r => by
    simp [lcR, tTrue, lc_abs x S r]
theorem bag_ok (m : Nat) (S : Sto) (ns : List Int) (h : ns.length ≤ 63) : ∃ o, calls (m + 1) .l_bag S [.rol (ns.map .int)] = .ok (.hdl S.length) (S ++ [o]) ∧ BagOk o := by
  have hl : (List.map Dv.int ((cutG ns none (some 63)).map fun m => if m < 0 then -m else m)).length ≤ sizeLine := by
    rw [List.length_map, List.length_map]
    exact line_le _ (by have := cutG_len ns none (some 63); omega)
  refine ⟨bagOb 0 1234567891 0 ((cutG ns none (some 63)).map fun m => if m < 0 then -m else m), ?_, 0, 1234567891, 0, _, rfl, by decide, by decide, by decide, by decide, fun c hc => ?_⟩
  · unfold bagOb
    rw [List.map_map] at hl
    simp [ev_l_bag, fb_l_bag, cutG_map, lc_abs, kLcEnd_ok _ _ hl]
  · obtain ⟨m, _, rfl⟩ := List.mem_map.mp hc
    split <;> omega
theorem bag_at {o : Ob} (h : BagOk o) : BagAt [o] 0 := ⟨o, rfl, h⟩
theorem BagAt.lt {S : Sto} {b : Nat} (h : BagAt S b) : b < S.length := by obtain ⟨o, h, _⟩ := h; exact (List.getElem?_eq_some_iff.mp h).1
theorem BagAt.set {S : Sto} {b : Nat} {o : Ob} (h : BagAt S b) (ho : BagOk o) : BagAt (S.set b o) b := ⟨o, by rw [List.getElem?_set, if_pos rfl, if_pos h.lt], ho⟩
theorem BagAt.app {S : Sto} {b : Nat} {o : Ob} (h : BagAt S b) : BagAt (S ++ [o]) b := by
  obtain ⟨q, h1, h2⟩ := h
  exact ⟨q, by rw [List.getElem?_append_left (List.getElem?_eq_some_iff.mp h1).1]; exact h1, h2⟩
end DL
namespace DL
open PySem L2
def El (S : Sto) (d : Dv) : Prop := ∃ p, toQ (deref 39 S d) = some p ∧ p.showable = true ∧ p.depth ≤ 5 ∧ p.shown.length ≤ 1000
def elB (p : PyData) : Bool := p.showable && decide (p.depth ≤ 5) && decide (p.shown.length ≤ 1000)
theorem el_of {S : Sto} {d : Dv} {p : PyData} (h : toQ (deref 39 S d) = some p) (hb : elB p = true) : El S d := by
  unfold elB at hb
  simp only [Bool.and_eq_true, decide_eq_true_eq] at hb
  exact ⟨p, h, hb.1.1, hb.1.2, hb.2⟩
theorem els_ok {S : Sto} : ∀ (l : List Dv), (∀ d ∈ l, El S d) → ∃ ps, toQs (l.map (deref 39 S)) = some ps ∧ PyData.showableAll ps = true ∧ PyData.depthAll ps ≤ 5 ∧ piled (PyData.shownAll ps) ≤ 1002 * l.length
  | [], _ => ⟨[], rfl, rfl, Nat.zero_le _, Nat.zero_le _⟩
  | d :: l, h => by
    obtain ⟨p, h1, h2, h3, h4⟩ := h d List.mem_cons_self
    obtain ⟨ps, k1, k2, k3, k4⟩ := els_ok l fun d hd => h d (List.mem_cons_of_mem _ hd)
    refine ⟨p :: ps, ?_, by simp [PyData.showableAll, h2, k2], by simp only [PyData.depthAll]; omega, ?_⟩
    · rw [List.map_cons]; exact toQs_cons h1 k1
    · simp only [PyData.shownAll]
      rw [piled_cons, List.length_cons]
      omega
theorem list_repr {S : Sto} {l : List Dv} (h : ∀ d ∈ l, El S d) (hl : l.length ≤ 100) : ∃ s, reprD S [.lst l] = some (.str s, S) := by
  obtain ⟨ps, k1, k2, k3, k4⟩ := els_ok l h
  have e : toQ (res S (.lst l)) = some (.list ps) := by
    show (toQs (l.map (deref 39 S))).map PyData.list = _
    rw [k1]; rfl
  refine ⟨(PyData.list ps).shown, ?_⟩
  unfold reprD
  simp only [e, Option.bind_some]
  rw [if_pos]
  simp only [Bool.and_eq_true, decide_eq_true_eq]
  have h5 := lt_len (PyData.shownAll ps)
  refine ⟨⟨by simpa [PyData.showable] using k2, by simp only [PyData.depth]; omega⟩, ?_⟩
  rw [sizeLine_eq]
  simp only [PyData.shown]
  omega
def scalL : List Dv := [.non, .bl true, .int 0, .int (10 ^ 39), .str "a", .tup [], .tup [.str "a", .str "b"], .int (-1)]
def LstOk (N : Nat) (l : List Dv) : Prop := ∃ r n : Nat, r < 9 ∧ n ≤ N ∧ l = .int (r : Int) :: List.replicate n (.str "more")
def DctOk (m : List (Key × Dv)) : Prop := m = [] ∨ m = [(.inr "more", .int 0)]
def AnyOk (N : Nat) (b : Nat) (S : Sto) (d : Dv) : Prop := d ∈ scalL ∨ ∃ k, d = .hdl k ∧ k ≠ b ∧ ((∃ l, S[k]? = some (.lst l) ∧ LstOk N l) ∨ ∃ m, S[k]? = some (.dct m) ∧ DctOk m)
theorem lst_el : ∀ r : Nat, r < 9 → ∀ n : Nat, n < 3 → elB (.list (.int (r : Int) :: List.replicate n (.str "more"))) = true := by decide +kernel
theorem toQs_rep (n : Nat) : toQs (List.replicate n (.str "more")) = some (List.replicate n (.str "more")) := by
  induction n with
  | zero => rfl
  | succ n ih => rw [List.replicate_succ, List.replicate_succ]; exact toQs_cons rfl ih
theorem deref_l {S : Sto} {k : Nat} {l : List Dv} (h : S[k]? = some (.lst l)) : deref 39 S (.hdl k) = .lst (l.map (deref 38 S)) := by
  show deref (38 + 1) S (.hdl k) = _
  simp only [deref, h]
theorem deref_d {S : Sto} {k : Nat} {l : List (Key × Dv)} (h : S[k]? = some (.dct l)) : deref 39 S (.hdl k) = .dic (l.map fun q => (q.1, deref 38 S q.2)) := by
  show deref (38 + 1) S (.hdl k) = _
  simp only [deref, h]
theorem any_el {b : Nat} {S : Sto} {d : Dv} (h : AnyOk 2 b S d) : El S d := by
  rcases h with h | ⟨k, rfl, _, ⟨l, hS, r, n, hr, hn, rfl⟩ | ⟨m, hS, hm⟩⟩
  · unfold scalL at h
    simp only [List.mem_cons, List.not_mem_nil, or_false] at h
    rcases h with rfl | rfl | rfl | rfl | rfl | rfl | rfl | rfl
    · exact el_of (p := .none) (by kernel_rfl) (by decide +kernel)
    · exact el_of (p := .bool true) (by kernel_rfl) (by decide +kernel)
    · exact el_of (p := .int 0) (by kernel_rfl) (by decide +kernel)
    · exact el_of (p := .int (10 ^ 39)) (by kernel_rfl) (by decide +kernel)
    · exact el_of (p := .str "a") (by kernel_rfl) (by decide +kernel)
    · exact el_of (p := .tuple []) (by kernel_rfl) (by decide +kernel)
    · exact el_of (p := .tuple [.str "a", .str "b"]) (by kernel_rfl) (by decide +kernel)
    · exact el_of (p := .int (-1)) (by kernel_rfl) (by decide +kernel)
  · refine el_of (p := .list (.int (r : Int) :: List.replicate n (.str "more"))) ?_ (lst_el r hr n (by omega))
    have e : deref 39 S (.hdl k) = .lst ((.int (r : Int) :: List.replicate n (.str "more")).map (deref 38 S)) := by
      exact deref_l hS
    rw [e, List.map_cons, List.map_replicate]
    show (toQs (.int (r : Int) :: List.replicate n (.str "more"))).map PyData.list = _
    rw [toQs_cons (p := .int (r : Int)) rfl (toQs_rep n)]
    rfl
  · have e : deref 39 S (.hdl k) = .dic (m.map fun q => (q.1, deref 38 S q.2)) := by
      exact deref_d hS
    rcases hm with rfl | rfl
    · exact el_of (p := .dict []) (by rw [e]; kernel_rfl) (by decide +kernel)
    · exact el_of (p := .dict [(.str "more", .int 0)]) (by rw [e]; kernel_rfl) (by decide +kernel)
theorem any_eq {N b : Nat} {S : Sto} {d : Dv} (h : AnyOk N b S d) : eqh S d d = true := by
  rcases h with h | ⟨k, rfl, _⟩
  · unfold scalL at h
    simp only [List.mem_cons, List.not_mem_nil, or_false] at h
    rcases h with rfl | rfl | rfl | rfl | rfl | rfl | rfl | rfl <;> kernel_rfl
  · simp [eqh]
theorem eqhL_self {S : Sto} : ∀ (l : List Dv), (∀ d ∈ l, eqh S d d = true) → eqhL S l l = true
  | [], _ => rfl
  | d :: l, h => by
    show (eqh S d d && eqhL S l l) = true
    rw [h d List.mem_cons_self, eqhL_self l fun d hd => h d (List.mem_cons_of_mem _ hd)]
    rfl
theorem alike_ok (n : Nat) {S : Sto} {l : List Dv} (h1 : ∀ d ∈ l, eqh S d d = true) (h2 : ∀ d ∈ l, El S d) (hl : l.length ≤ 100) : calls (n + 1) .l_alike S [.lst l, .lst l] = .ok (.bl true) S := by
  obtain ⟨s, hs⟩ := list_repr h2 hl
  have e : eqHD S (.lst l) (.lst l) = some (.bl true, S) := if_pos (eqhL_self l h1)
  simp -implicitDefEqProofs [ev_l_alike, fb_l_alike, e, hs]
theorem AnyOk.le {N M b : Nat} {S : Sto} {d : Dv} (h : AnyOk N b S d) (hM : N ≤ M) : AnyOk M b S d := by
  rcases h with h | ⟨k, rfl, hk, ⟨l, hS, r, n, hr, hn, e⟩ | h⟩
  · exact .inl h
  · exact .inr ⟨k, rfl, hk, .inl ⟨l, hS, r, n, hr, by omega, e⟩⟩
  · exact .inr ⟨k, rfl, hk, .inr h⟩
theorem AnyOk.set {N b : Nat} {S : Sto} {d : Dv} {o : Ob} (h : AnyOk N b S d) : AnyOk N b (S.set b o) d := by
  rcases h with h | ⟨k, rfl, hk, h⟩
  · exact .inl h
  · refine .inr ⟨k, rfl, hk, ?_⟩
    rw [List.getElem?_set_ne (Ne.symm hk)]
    exact h
theorem AnyOk.app {N b : Nat} {S : Sto} {d : Dv} {o : Ob} (h : AnyOk N b S d) : AnyOk N b (S ++ [o]) d := by
  rcases h with h | ⟨k, rfl, hk, h⟩
  · exact .inl h
  · refine .inr ⟨k, rfl, hk, ?_⟩
    have hl : k < S.length := by
      rcases h with ⟨l, h, _⟩ | ⟨m, h, _⟩ <;> exact (List.getElem?_eq_some_iff.mp h).1
    rw [List.getElem?_append_left hl]
    exact h
end DL
namespace DL
open PySem L2
def errsD (x y : Dv) : List Dv := [.ext 1 "BadRow" ["path"] [x],
  .ext 1 "Unset" ["name"] [x],
  .ext 1 "NoRow" ["index"] [x],
  .ext 1 "BadLine" ["line"] [x],
  .ext 1 "NoChoice" ["choice"] [x],
  .ext 1 "BadLookup" ["lookup"] [x],
  .ext 1 "OneValue" ["value"] [x],
  .ext 1 "NoLookup" ["lookup"] [x],
  .ext 1 "QuietLoop" ["sign"] [x],
  .ext 1 "NoFailing" ["index"] [x],
  .ext 1 "NoIndex" ["index"] [x],
  .ext 1 "NoPair" ["pair"] [x],
  .ext 1 "NotFoldable" ["name"] [x],
  .ext 1 "NoSpelling" ["word"] [x],
  .ext 1 "BadName" ["name"] [x],
  .ext 1 "NoName" ["name"] [x],
  .ext 1 "BadChoice" ["choice", "value"] [x, y],
  .ext 1 "BadPower" ["sign", "power"] [x, y],
  .ext 2 "Contradiction" [] [],
  .ext 2 "HasLoop" [] [],
  .ext 2 "NoParting" [] [],
  .ext 2 "NothingDone" [] []]
def dueL (x y : Dv) : List Dv := List.replicate 18 x ++ List.replicate 2 y
theorem errors_ok (f : Nat) (x y : Dv) (S : Sto) : calls (f + 2) .l_errors S [x, y] = .ok (.lst (errsD x y)) S := by kernel_rfl
theorem fields_ok (f : Nat) (x y : Dv) (S : Sto) : calls (f + 1) .l_fields S [.lst (errsD x y)] = .ok (.lst (dueL x y)) S := by kernel_rfl
def l0E (x0 x1 x2 : Sl) (x y : Dv) (s8 s9 s10 : Sl) (i : Int) : Env := [x0, x1, x2, .va x, .va y, .va (.lst (errsD x y)), .va (.lst (dueL x y)), .va (.int i), s8, s9, s10]
theorem l0_one (f : Nat) (x0 x1 x2 : Sl) (x y : Dv) (s8 s9 s10 : Sl) (S : Sto) : ∀ i : Nat, i < 22 → fb_law_l0 (calls (f + 1)) (l0E x0 x1 x2 x y s8 s9 s10 i) S = .nx (l0E x0 x1 x2 x y s8 s9 s10 i) S
  | 0, _ => by kernel_rfl
  | 1, _ => by kernel_rfl
  | 2, _ => by kernel_rfl
  | 3, _ => by kernel_rfl
  | 4, _ => by kernel_rfl
  | 5, _ => by kernel_rfl
  | 6, _ => by kernel_rfl
  | 7, _ => by kernel_rfl
  | 8, _ => by kernel_rfl
  | 9, _ => by kernel_rfl
  | 10, _ => by kernel_rfl
  | 11, _ => by kernel_rfl
  | 12, _ => by kernel_rfl
  | 13, _ => by kernel_rfl
  | 14, _ => by kernel_rfl
  | 15, _ => by kernel_rfl
  | 16, _ => by kernel_rfl
  | 17, _ => by kernel_rfl
  | 18, _ => by kernel_rfl
  | 19, _ => by kernel_rfl
  | 20, _ => by kernel_rfl
  | 21, _ => by kernel_rfl
  | n + 22, h => by omega
end DL
namespace DL
open PySem L2
def TakeF (f b : Nat) : Prop := ∀ S, BagAt S b → ∀ n : Int, 0 < n → n < 1073741824 → ∃ r o, calls f .l_take S [.hdl b, .int n] = .ok (.int r) (S.set b o) ∧ 0 ≤ r ∧ r < n ∧ BagOk o
theorem takeF (f b : Nat) : TakeF (f + 1) b := fun S h n h1 h2 => take_ok f h h1 h2
theorem kl_ok (l : List Dv) (S : Sto) (h : l.length ≤ 100 := by simp) : kLst l S = .ok l S := kLst_ok _ _ (line_le _ (by omega))
theorem pow39 (S : Sto) : pu2 powD S (.int 10) (.int 39) = some (.int (10 ^ 39), S) := by kernel_rfl
/-- a thing is drawn; what was drawn ahead of it stands -/
theorem any_ok {f b : Nat} {S : Sto} (hB : BagAt S b) : ∃ d S', calls (f + 2) .l_any S [.hdl b] = .ok d S' ∧ BagAt S' b ∧ AnyOk 0 b S' d ∧ ∀ e, AnyOk 0 b S e → AnyOk 0 b S' e := by
  have B1 : BagAt (S ++ [Ob.dct []]) b := hB.app
  have hlt := hB.lt
  obtain ⟨r, o, e1, r0, r1, ho⟩ := takeF f b _ B1 3 (by decide) (by decide)
  have B2 := B1.set ho
  obtain ⟨q, o2, e2, q0, q1, ho2⟩ := takeF f b _ B2 9 (by decide) (by decide)
  have B3 := B2.set ho2
  have hk : S.length ≠ b := by omega
  have nd : ∀ S : Sto, nD dNil [] S = .ok (.dct []) S := fun S => by kernel_rfl
  let l : List Dv := [.non, .bl true, .int 0, .int (10 ^ 39), .str "a", .tup [], .hdl S.length, .tup [.str "a", .str "b"], .int (-1)]
  have kl := kl_ok l (S ++ [Ob.dct []]) (by show 9 ≤ 100; decide)
  have kl : kLst [Dv.non, .bl true, .int 0, .int (10 ^ 39), .str "a", .tup [], .hdl S.length, .tup [.str "a", .str "b"], .int (-1)] (S ++ [Ob.dct []]) = .ok l (S ++ [Ob.dct []]) := kl
  have st : ∀ e, AnyOk 0 b S e → AnyOk 0 b (((S ++ [Ob.dct []]).set b o).set b o2) e := fun e h => h.app.set.set
  by_cases h0 : r = 0
  · subst h0
    obtain ⟨d, hd, hm⟩ := atI_r (l := l) q0 q1
    refine ⟨d, _, ?_, B3, ?_, st⟩
    · generalize l = l2 at *
      simp -implicitDefEqProofs [-Int.reducePow, ev_l_any, fb_l_any, pow39, kl, e1, e2, hd, eHdlN, nD, dNil]
    · simp only [l, List.mem_cons, List.not_mem_nil, or_false] at hm
      have hS : (((S ++ [Ob.dct []]).set b o).set b o2)[S.length]? = some (.dct []) := by
        rw [List.getElem?_set_ne (Ne.symm hk), List.getElem?_set_ne (Ne.symm hk)]
        simp
      rcases hm with rfl | rfl | rfl | rfl | rfl | rfl | rfl | rfl | rfl
      · exact .inl (by simp [scalL])
      · exact .inl (by simp [scalL])
      · exact .inl (by simp [scalL])
      · exact .inl (by simp [scalL])
      · exact .inl (by simp [scalL])
      · exact .inl (by simp [scalL])
      · exact .inr ⟨_, rfl, hk, .inr ⟨[], hS, .inl rfl⟩⟩
      · exact .inl (by simp [scalL])
      · exact .inl (by simp [scalL])
  · obtain ⟨m, rfl⟩ : ∃ m : Nat, q = (m : Int) := ⟨q.toNat, by omega⟩
    refine ⟨.hdl (S.length + 1), (((S ++ [Ob.dct []]).set b o).set b o2) ++ [.lst [.int (m : Int)]], ?_, B3.app, ?_, fun e h => (st e h).app⟩
    · generalize l = l2 at *
      simp -implicitDefEqProofs [-Int.reducePow, ev_l_any, fb_l_any, pow39, kl, e1, e2, h0, eHdlN, nD, dNil]
    · refine .inr ⟨_, rfl, by omega, .inl ⟨[.int (m : Int)], ?_, m, 0, by omega, Nat.le_refl _, rfl⟩⟩
      rw [List.getElem?_append_right (by simp)]
      simp
end DL
namespace DL
open PySem L2
theorem isi_h {S : Sto} {k : Nat} {t : String} {b : Bool} (x : String) (ht : tyD S (.hdl k) = some t) (hk : kitB t x = some b) : isiD S [.hdl k, .ty x] = some (.bl b, S) := by
  show (tyD S (.hdl k)).bind (fun t => (kitB t x).map fun b => (Dv.bl b, S)) = _
  rw [ht, Option.bind_some, hk]
  rfl
theorem ty_l {S : Sto} {k : Nat} {l : List Dv} (h : S[k]? = some (.lst l)) : tyD S (.hdl k) = some "list" := by
  show (match S[k]? with
    | some (.lst _) => some "list"
    | some (.dct _) => some "dict"
    | _ => none) = _
  rw [h]
theorem ty_d {S : Sto} {k : Nat} {l : List (Key × Dv)} (h : S[k]? = some (.dct l)) : tyD S (.hdl k) = some "dict" := by
  show (match S[k]? with
    | some (.lst _) => some "list"
    | some (.dct _) => some "dict"
    | _ => none) = _
  rw [h]
theorem set_at2 {S : Sto} {k : Nat} {o o' : Ob} (h : S[k]? = some o) : (S.set k o')[k]? = some o' := by
  rw [List.getElem?_set, if_pos rfl, if_pos (List.getElem?_eq_some_iff.mp h).1]
/-- a thing is changed behind -/
theorem l1_ok {F b N : Nat} {S : Sto} {d : Dv} (hB : BagAt S b) (hN : N ≤ 5) (h : AnyOk N b S d) (x0 x1 x2 x3 x4 x5 x6 x7 x9 x10 : Sl) :
    ∃ S', fb_law_l1 (calls F) [x0, x1, x2, x3, x4, x5, x6, x7, .va d, x9, x10] S = .nx [x0, x1, x2, x3, x4, x5, x6, x7, .va d, x9, x10] S' ∧ BagAt S' b ∧ ∀ e, AnyOk N b S e → AnyOk (N + 1) b S' e := by
  rcases h with h | ⟨k, rfl, hk, ⟨l, hS, hl⟩ | ⟨m, hS, hm⟩⟩
  · refine ⟨S, ?_, hB, fun e he => he.le (Nat.le_succ _)⟩
    unfold scalL at h
    simp only [List.mem_cons, List.not_mem_nil, or_false] at h
    rcases h with rfl | rfl | rfl | rfl | rfl | rfl | rfl | rfl <;> simp -implicitDefEqProofs [fb_law_l1]
  · obtain ⟨r, n, hr, hn, rfl⟩ := hl
    have i1 := isi_h "list" (ty_l hS) (b := true) (by decide +kernel)
    have ap := hdlM_app (S := S) (k := k) (l := .int (r : Int) :: List.replicate n (.str "more")) (d := .str "more") (h1 := hS) (h2 := by rw [sizeLine_eq]; simp only [List.length_cons, List.length_replicate]; omega)
    have hS2 : (S.set k (.lst ((.int (r : Int) :: List.replicate n (.str "more")) ++ [.str "more"])))[k]? = some (.lst ((.int (r : Int) :: List.replicate n (.str "more")) ++ [.str "more"])) := set_at2 hS
    have i2 := isi_h "dict" (ty_l hS2) (b := false) (by decide +kernel)
    have lh : lstHd S (.hdl k) = true := by simp [lstHd, hS]
    refine ⟨S.set k (.lst ((.int (r : Int) :: List.replicate n (.str "more")) ++ [.str "more"])), ?_, ?_, fun e he => ?_⟩
    · generalize ((.int (r : Int) :: List.replicate n (.str "more")) ++ [Dv.str "more"]) = l2 at *
      exact (by simp -implicitDefEqProofs [fb_law_l1, i1, i2, ap, kHM1, lh] : fb_law_l1 (calls F) [x0, x1, x2, x3, x4, x5, x6, x7, .va (.hdl k), x9, x10] S = .nx [x0, x1, x2, x3, x4, x5, x6, x7, .va (.hdl k), x9, x10] (S.set k (.lst l2)))
    · obtain ⟨o, ho, hb⟩ := hB
      exact ⟨o, by rw [List.getElem?_set_ne hk]; exact ho, hb⟩
    · rcases he with he | ⟨k2, rfl, hk2, he⟩
      · exact .inl he
      · refine .inr ⟨k2, rfl, hk2, ?_⟩
        by_cases hkk : k2 = k
        · subst hkk
          refine .inl ⟨_, hS2, r, n + 1, hr, by omega, ?_⟩
          rw [List.cons_append, ← List.replicate_succ']
        · rw [List.getElem?_set_ne (Ne.symm hkk)]
          rcases he with ⟨l, h1, r', n', h2, h3, h4⟩ | he
          · exact .inl ⟨l, h1, r', n', h2, by omega, h4⟩
          · exact .inr he
  · have i1 := isi_h "list" (ty_d hS) (b := false) (by decide +kernel)
    have i2 := isi_h "dict" (ty_d hS) (b := true) (by decide +kernel)
    have dp : dputH S (.hdl k) (.str "more") (.int 0) = some (S.set k (.dct [(.inr "more", .int 0)])) := by
      rcases hm with rfl | rfl
      · unfold dputH
        simp only [hS]
        kernel_rfl
      · unfold dputH
        simp only [hS]
        kernel_rfl
    have hS2 : (S.set k (.dct [(.inr "more", .int 0)]))[k]? = some (.dct [(.inr "more", .int 0)]) := set_at2 hS
    refine ⟨S.set k (.dct [(.inr "more", .int 0)]), ?_, ?_, fun e he => ?_⟩
    · have s3 : sDPutH (eVar 8) (eC (.str "more")) (eC (.int 0)) [x0, x1, x2, x3, x4, x5, x6, x7, .va (.hdl k), x9, x10] S = .nx [x0, x1, x2, x3, x4, x5, x6, x7, .va (.hdl k), x9, x10] (S.set k (.dct [(.inr "more", .int 0)])) := by
        unfold sDPutH sBind
        simp [sBind, dp]
      exact (by simp -implicitDefEqProofs [fb_law_l1, i1, i2, s3] : fb_law_l1 (calls F) [x0, x1, x2, x3, x4, x5, x6, x7, .va (.hdl k), x9, x10] S = .nx [x0, x1, x2, x3, x4, x5, x6, x7, .va (.hdl k), x9, x10] (S.set k (.dct [(.inr "more", .int 0)])))
    · obtain ⟨o, ho, hb⟩ := hB
      exact ⟨o, by rw [List.getElem?_set_ne hk]; exact ho, hb⟩
    · rcases he with he | ⟨k2, rfl, hk2, he⟩
      · exact .inl he
      · refine .inr ⟨k2, rfl, hk2, ?_⟩
        by_cases hkk : k2 = k
        · subst hkk
          exact .inr ⟨_, hS2, .inr rfl⟩
        · rw [List.getElem?_set_ne (Ne.symm hkk)]
          rcases he with ⟨l, h1, r', n', h2, h3, h4⟩ | he
          · exact .inl ⟨l, h1, r', n', h2, by omega, h4⟩
          · exact .inr he
end DL
namespace DL
open PySem L2
theorem l0_loop (f : Nat) (x0 x1 x2 : Sl) (x y : Dv) (s8 s9 s10 : Sl) (S : Sto) : ∀ (l : List Dv) (s7 : Sl), (∀ d ∈ l, ∃ i : Nat, i < 22 ∧ d = .int (i : Int)) →
    ∃ y7, forR (gN 7) (fb_law_l0 (calls (f + 1))) l [x0, x1, x2, .va x, .va y, .va (.lst (errsD x y)), .va (.lst (dueL x y)), s7, s8, s9, s10] S = .nx [x0, x1, x2, .va x, .va y, .va (.lst (errsD x y)), .va (.lst (dueL x y)), y7, s8, s9, s10] S
  | [], s7, _ => ⟨s7, rfl⟩
  | d :: l, s7, h => by
    obtain ⟨i, hi, rfl⟩ := h d List.mem_cons_self
    obtain ⟨y7, e⟩ := l0_loop f x0 x1 x2 x y s8 s9 s10 S l (.va (.int (i : Int))) fun d hd => h d (List.mem_cons_of_mem _ hd)
    exact ⟨y7, by rw [← e]; exact forR_nx rfl (l0_one f x0 x1 x2 x y s8 s9 s10 S i hi)⟩
theorem rng_mem : ∀ d ∈ rngD 0 22, ∃ i : Nat, i < 22 ∧ d = .int (i : Int) := by
  have h : (rngD 0 22) = ((List.range 22).map fun (k : Nat) => Dv.int (k : Int)) := by kernel_rfl
  rw [h]
  intro d hd
  obtain ⟨k, hk, rfl⟩ := List.mem_map.mp hd
  exact ⟨k, List.mem_range.mp hk, rfl⟩
theorem rep18 (x : Dv) (S : Sto) : repD S (.lst [x]) (.int 18) = some (.lst (List.replicate 18 x), S) := by kernel_rfl
theorem rep2 (x : Dv) (S : Sto) : repD S (.lst [x]) (.int 2) = some (.lst (List.replicate 2 x), S) := by kernel_rfl
theorem rep20 (x : Dv) (S : Sto) : repD S (.lst [x]) (.int 20) = some (.lst (List.replicate 20 x), S) := by kernel_rfl
theorem add20 (x y : Dv) (S : Sto) : addD S (.lst (List.replicate 18 x)) (.lst (List.replicate 2 y)) = some (.lst (dueL x y), S) := by kernel_rfl
theorem due_mem {x y d : Dv} (h : d ∈ dueL x y) : d = x ∨ d = y := by
  unfold dueL at h
  rcases List.mem_append.mp h with h | h
  · exact .inl (List.mem_replicate.mp h).2
  · exact .inr (List.mem_replicate.mp h).2
theorem due_len (x y : Dv) : (dueL x y).length = 20 := by simp [dueL]
theorem al_ok (n : Nat) {N b : Nat} {S : Sto} {x y : Dv} (hN : N ≤ 2) (hx : AnyOk N b S x) (hy : AnyOk N b S y) : calls (n + 1) .l_alike S [.lst (dueL x y), .lst (dueL x y)] = .ok (.bl true) S := by
  refine alike_ok n (fun d hd => ?_) (fun d hd => ?_) (by rw [due_len]; decide)
  · rcases due_mem hd with rfl | rfl
    · exact any_eq hx
    · exact any_eq hy
  · rcases due_mem hd with rfl | rfl
    · exact any_el (hx.le hN)
    · exact any_el (hy.le hN)
theorem turn_ok {F b : Nat} (hF : 10 ≤ F) {S : Sto} (hB : BagAt S b) (x0 x2 x3 x4 x5 x6 x7 x8 x9 x10 : Sl) : ∃ y3 y4 y5 y6 y7 y8 S', fb_law_l2 (calls F) [x0, .va (.hdl b), x2, x3, x4, x5, x6, x7, x8, x9, x10] S = .nx [x0, .va (.hdl b), x2, y3, y4, y5, y6, y7, y8, x9, x10] S' ∧ BagAt S' b := by
  obtain ⟨f, rfl⟩ : ∃ f, F = f + 4 := ⟨F - 4, by omega⟩
  obtain ⟨x, S1, e1, B1, hx, _⟩ := any_ok (f := f + 2) hB
  obtain ⟨y, S2, e2, B2, hy, st⟩ := any_ok (f := f + 2) B1
  have hx := st x hx
  have e3 := errors_ok (f + 2) x y S2
  have r18 := rep18 x S2
  have r2 := rep2 y S2
  have ad := add20 x y S2
  obtain ⟨y7, e4⟩ := l0_loop (f + 3) x0 (.va (.hdl b)) x2 x y x8 x9 x10 S2 (rngD 0 22) x7 rng_mem
  have f1 := fields_ok (f + 3) x y S2
  have a1 := al_ok (f + 3) (by decide) hx hy
  obtain ⟨S3, e5, B3, st3⟩ := l1_ok (F := f + 4) B2 (by decide) hx x0 (.va (.hdl b)) x2 (.va x) (.va y) (.va (.lst (errsD x y))) (.va (.lst (dueL x y))) y7 x9 x10
  have hx3 := st3 x hx
  have hy3 := st3 y hy
  obtain ⟨S4, e6, B4, st4⟩ := l1_ok (F := f + 4) B3 (by decide) hy3 x0 (.va (.hdl b)) x2 (.va x) (.va y) (.va (.lst (errsD x y))) (.va (.lst (dueL x y))) y7 x9 x10
  have hx4 := st4 x hx3
  have hy4 := st4 y hy3
  have f2 := fields_ok (f + 3) x y S4
  have a2 := al_ok (f + 3) (by decide) hx4 hy4
  have e7 : forR (gN 8) (fb_law_l1 (calls (f + 4))) [x, y] [x0, .va (.hdl b), x2, .va x, .va y, .va (.lst (errsD x y)), .va (.lst (dueL x y)), y7, x8, x9, x10] S2 = .nx [x0, .va (.hdl b), x2, .va x, .va y, .va (.lst (errsD x y)), .va (.lst (dueL x y)), y7, .va y, x9, x10] S4 := by
    rw [forR_nx rfl e5, forR_nx rfl e6]
    rfl
  have hr := rngR1_ok S2 22 (by omega)
  have h6 : (22 : Int).toNat = 22 := rfl
  rw [h6] at hr
  refine ⟨.va x, .va y, .va (.lst (errsD x y)), .va (.lst (dueL x y)), y7, .va y, S4, ?_, B4⟩
  clear hx hy hx3 hy3 hx4 hy4 st st3 st4 e5 e6
  generalize dueL x y = D at *
  generalize errsD x y = E at *
  generalize List.replicate 18 x = A at *
  generalize List.replicate 2 y = A2 at *
  generalize rngD 0 22 = q at *
  simp -implicitDefEqProofs [fb_law_l2, e1, e2, e3, r18, r2, ad, hr, e4, f1, a1, e7, f2, a2]
theorem turns {F b : Nat} (hF : 10 ≤ F) (x0 : Sl) : ∀ (l : List Dv) {S : Sto} (x2 x3 x4 x5 x6 x7 x8 x9 x10 : Sl), BagAt S b → ∃ y2 y3 y4 y5 y6 y7 y8 S', forR (gN 2) (fb_law_l2 (calls F)) l [x0, .va (.hdl b), x2, x3, x4, x5, x6, x7, x8, x9, x10] S = .nx [x0, .va (.hdl b), y2, y3, y4, y5, y6, y7, y8, x9, x10] S'
  | [], S, x2, x3, x4, x5, x6, x7, x8, x9, x10, h => ⟨_, _, _, _, _, _, _, S, rfl⟩
  | d :: l, S, x2, x3, x4, x5, x6, x7, x8, x9, x10, h => by
    obtain ⟨y3, y4, y5, y6, y7, y8, S', e, h'⟩ := turn_ok hF h x0 (.va d) x3 x4 x5 x6 x7 x8 x9 x10
    obtain ⟨z2, z3, z4, z5, z6, z7, z8, S2, e2⟩ := turns hF x0 l (.va d) y3 y4 y5 y6 y7 y8 x9 x10 h'
    exact ⟨z2, z3, z4, z5, z6, z7, z8, S2, by rw [← e2]; exact forR_nx rfl e⟩
def gk (n : Nat) : Int := 10 ^ (50 * 2 ^ n)
theorem gk_mul (n : Nat) : gk n * gk n = gk (n + 1) := by
  unfold gk
  rw [← Int.pow_add]
  congr 1
  rw [Nat.pow_succ]
  omega
theorem gk_small {n : Nat} (h : n ≤ 6) : (gk n).natAbs < 2 ^ 30000 := by
  unfold gk
  rw [Int.natAbs_pow]
  have h1 : (10 : Int).natAbs = 10 := rfl
  rw [h1]
  have h2 : 2 ^ n ≤ 2 ^ 6 := Nat.pow_le_pow_right (by decide) h
  have h3 : 50 * 2 ^ n ≤ 3200 := by omega
  calc 10 ^ (50 * 2 ^ n) ≤ 16 ^ (50 * 2 ^ n) := Nat.pow_le_pow_left (by decide) _
    _ = 2 ^ (4 * (50 * 2 ^ n)) := by rw [show (16 : Nat) = 2 ^ 4 from rfl, ← Nat.pow_mul]
    _ < 2 ^ 30000 := Nat.pow_lt_pow_right (by decide) (by omega)
theorem mulX_gk {n : Nat} (h : n ≤ 6) (S : Sto) : mulXD S (.int (gk n)) (.int (gk n)) = some (.int (gk (n + 1)), S) := by
  unfold mulXD
  simp only
  rw [if_pos ⟨gk_small h, gk_small h⟩, gk_mul]
theorem l3_loop (c : Fn → DF) (S : Sto) (x0 x1 x2 x3 x4 x5 x6 x7 x8 : Sl) : ∀ (l : List Dv) (n : Nat) (x10 : Sl), n + l.length ≤ 7 → ∃ y10, forR (gN 10) (fb_law_l3 c) l [x0, x1, x2, x3, x4, x5, x6, x7, x8, .va (.int (gk n)), x10] S = .nx [x0, x1, x2, x3, x4, x5, x6, x7, x8, .va (.int (gk (n + l.length))), y10] S
  | [], n, x10, _ => ⟨x10, rfl⟩
  | d :: l, n, x10, h => by
    simp only [List.length_cons] at h
    obtain ⟨y10, e⟩ := l3_loop c S x0 x1 x2 x3 x4 x5 x6 x7 x8 l (n + 1) (.va d) (by omega)
    have m := mulX_gk (n := n) (by omega) S
    refine ⟨y10, ?_⟩
    rw [List.length_cons, show n + (l.length + 1) = n + 1 + l.length from by omega, ← e]
    generalize gk (n + 1) = g1 at *
    generalize gk n = g0 at *
    exact forR_nx (e1 := [x0, x1, x2, x3, x4, x5, x6, x7, x8, .va (.int g0), .va d]) rfl (by simp -implicitDefEqProofs [fb_law_l3, m])
theorem law_true (ns : List Int) (h : ns.length ≤ 63) : ∃ S, calls (20 + 1) .law [] [.rol (ns.map .int)] = .ok (.bl true) S := by
  obtain ⟨o, e, ho⟩ := bag_ok 19 [] ns h
  obtain ⟨z2, z3, z4, z5, z6, z7, z8, S', e2⟩ := turns (F := 20) (by decide) (.va (.rol (ns.map .int))) (rngD 0 4) .no .no .no .no .no .no .no .no .no (bag_at ho)
  have e' : calls 20 .l_bag [] [.rol (ns.map .int)] = .ok (.hdl 0) [o] := e
  have hr := rngR1_ok [o] 4 (by omega)
  have hr2 := rngR1_ok S' 7 (by omega)
  have h6 : (4 : Int).toNat = 4 := rfl
  have h7 : (7 : Int).toNat = 7 := rfl
  rw [h6] at hr
  rw [h7] at hr2
  obtain ⟨y10, e3⟩ := l3_loop (calls 20) S' (.va (.rol (ns.map .int))) (.va (.hdl 0)) z2 z3 z4 z5 z6 z7 z8 (rngD 0 7) 0 .no (by rw [rngD_len]; decide)
  have e3 : forR (gN 10) (fb_law_l3 (calls 20)) (rngD 0 7) [.va (.rol (ns.map .int)), .va (.hdl 0), z2, z3, z4, z5, z6, z7, z8, .va (.int (gk 0)), .no] S' = .nx [.va (.rol (ns.map .int)), .va (.hdl 0), z2, z3, z4, z5, z6, z7, z8, .va (.int (gk 7)), y10] S' := by
    rw [rngD_len] at e3; exact e3
  have p50 : pu2 powD S' (.int 10) (.int 50) = some (.int (gk 0), S') := by kernel_rfl
  have er := errors_ok 18 (.int (gk 7)) (.int (gk 7)) S'
  have fl := fields_ok 19 (.int (gk 7)) (.int (gk 7)) S'
  have r20 := rep20 (.int (gk 7)) S'
  have ed : dueL (.int (gk 7)) (.int (gk 7)) = List.replicate 20 (.int (gk 7)) := by
    generalize gk 7 = g
    rfl
  have eq : eqHD S' (.lst (dueL (.int (gk 7)) (.int (gk 7)))) (.lst (List.replicate 20 (.int (gk 7)))) = some (.bl true, S') := by
    rw [ed]
    show (if eqhL S' (List.replicate 20 (Dv.int (gk 7))) (List.replicate 20 (Dv.int (gk 7))) = true then some (Dv.bl true, S') else none) = _
    refine if_pos (eqhL_self _ fun d hd => ?_)
    rw [(List.mem_replicate.mp hd).2]
    simp [eqh]
  refine ⟨S', ?_⟩
  rw [ev_law]
  generalize dueL (.int (gk 7)) (.int (gk 7)) = D at *
  generalize List.replicate 20 (Dv.int (gk 7)) = D2 at *
  generalize errsD (.int (gk 7)) (.int (gk 7)) = E at *
  generalize gk 7 = g7 at *
  generalize gk 0 = g0 at *
  generalize rngD 0 4 = q at *
  generalize rngD 0 7 = q7 at *
  generalize ns.map Dv.int = qn at *
  simp -implicitDefEqProofs [fb_law, e', hr, e2, p50, hr2, e3, er, fl, r20, eq]
end DL
namespace Row
open PySem L2 DL
structure Tx (K : PySem.W.Frag) (w : World) (mg : Str → Option Value) : Prop where
  f_ValueError : mg "ValueError" = none
  f_abs : mg "abs" = none
  f_dict : mg "dict" = none
  f_int : mg "int" = none
  f_isinstance : mg "isinstance" = none
  f_len : mg "len" = none
  f_list : mg "list" = none
  f_range : mg "range" = none
  f_repr : mg "repr" = none
  g_l_bag : mg "_law_bag" = some (.ref (He.ga K "_law_bag"))
  g_l_fields : mg "_law_fields" = some (.ref (He.ga K "_law_fields"))
  g_l_take : mg "_law_take" = some (.ref (He.ga K "_law_take"))
  g_l_any : mg "_law_any" = some (.ref (He.ga K "_law_any"))
  g_l_errors : mg "_law_errors" = some (.ref (He.ga K "_law_errors"))
  g_l_alike : mg "_law_alike" = some (.ref (He.ga K "_law_alike"))
  g_l_flags : mg "_law_flags" = some (.ref (He.ga K "_law_flags"))
  g_law : mg "law" = some (.ref (He.ga K "law"))
  g_BadChoice : mg "BadChoice" = some (.ref (He.ga K "BadChoice"))
  g_BadLine : mg "BadLine" = some (.ref (He.ga K "BadLine"))
  g_BadLookup : mg "BadLookup" = some (.ref (He.ga K "BadLookup"))
  g_BadName : mg "BadName" = some (.ref (He.ga K "BadName"))
  g_BadPower : mg "BadPower" = some (.ref (He.ga K "BadPower"))
  g_BadRow : mg "BadRow" = some (.ref (He.ga K "BadRow"))
  g_Contradiction : mg "Contradiction" = some (.ref (He.ga K "Contradiction"))
  g_FoundError : mg "FoundError" = some (.ref (He.ga K "FoundError"))
  g_HasLoop : mg "HasLoop" = some (.ref (He.ga K "HasLoop"))
  g_NoChoice : mg "NoChoice" = some (.ref (He.ga K "NoChoice"))
  g_NoFailing : mg "NoFailing" = some (.ref (He.ga K "NoFailing"))
  g_NoIndex : mg "NoIndex" = some (.ref (He.ga K "NoIndex"))
  g_NoLookup : mg "NoLookup" = some (.ref (He.ga K "NoLookup"))
  g_NoName : mg "NoName" = some (.ref (He.ga K "NoName"))
  g_NoPair : mg "NoPair" = some (.ref (He.ga K "NoPair"))
  g_NoParting : mg "NoParting" = some (.ref (He.ga K "NoParting"))
  g_NoRow : mg "NoRow" = some (.ref (He.ga K "NoRow"))
  g_NoSpelling : mg "NoSpelling" = some (.ref (He.ga K "NoSpelling"))
  g_NotFoldable : mg "NotFoldable" = some (.ref (He.ga K "NotFoldable"))
  g_NothingDone : mg "NothingDone" = some (.ref (He.ga K "NothingDone"))
  g_OneValue : mg "OneValue" = some (.ref (He.ga K "OneValue"))
  g_QuietLoop : mg "QuietLoop" = some (.ref (He.ga K "QuietLoop"))
  g_Unset : mg "Unset" = some (.ref (He.ga K "Unset"))
  fe_FoundError : FeF K (He.ga K "FoundError")
  xc_BadRow : XcF K (He.ga K "BadRow") (He.ma K (He.ga K "BadRow") "__init__") ["path"]
  xc_Unset : XcF K (He.ga K "Unset") (He.ma K (He.ga K "Unset") "__init__") ["name"]
  xc_NoRow : XcF K (He.ga K "NoRow") (He.ma K (He.ga K "NoRow") "__init__") ["index"]
  xc_BadLine : XcF K (He.ga K "BadLine") (He.ma K (He.ga K "BadLine") "__init__") ["line"]
  xc_NoChoice : XcF K (He.ga K "NoChoice") (He.ma K (He.ga K "NoChoice") "__init__") ["choice"]
  xc_BadLookup : XcF K (He.ga K "BadLookup") (He.ma K (He.ga K "BadLookup") "__init__") ["lookup"]
  xc_OneValue : XcF K (He.ga K "OneValue") (He.ma K (He.ga K "OneValue") "__init__") ["value"]
  xc_NoLookup : XcF K (He.ga K "NoLookup") (He.ma K (He.ga K "NoLookup") "__init__") ["lookup"]
  xc_QuietLoop : XcF K (He.ga K "QuietLoop") (He.ma K (He.ga K "QuietLoop") "__init__") ["sign"]
  xc_NoFailing : XcF K (He.ga K "NoFailing") (He.ma K (He.ga K "NoFailing") "__init__") ["index"]
  xc_NoIndex : XcF K (He.ga K "NoIndex") (He.ma K (He.ga K "NoIndex") "__init__") ["index"]
  xc_NoPair : XcF K (He.ga K "NoPair") (He.ma K (He.ga K "NoPair") "__init__") ["pair"]
  xc_NotFoldable : XcF K (He.ga K "NotFoldable") (He.ma K (He.ga K "NotFoldable") "__init__") ["name"]
  xc_NoSpelling : XcF K (He.ga K "NoSpelling") (He.ma K (He.ga K "NoSpelling") "__init__") ["word"]
  xc_BadName : XcF K (He.ga K "BadName") (He.ma K (He.ga K "BadName") "__init__") ["name"]
  xc_NoName : XcF K (He.ga K "NoName") (He.ma K (He.ga K "NoName") "__init__") ["name"]
  xc_BadChoice : XcF K (He.ga K "BadChoice") (He.ma K (He.ga K "BadChoice") "__init__") ["choice", "value"]
  xc_BadPower : XcF K (He.ga K "BadPower") (He.ma K (He.ga K "BadPower") "__init__") ["sign", "power"]
  xt : XcT K xtab
  xz_Contradiction : XzF K "Contradiction"
  xz_HasLoop : XzF K "HasLoop"
  xz_NoParting : XzF K "NoParting"
  xz_NothingDone : XzF K "NothingDone"
  xs_BadChoice : IsX K (clV K (.glo "BadChoice")) xs_BadChoice
  xs_BadLine : IsX K (clV K (.glo "BadLine")) xs_BadLine
  xs_BadLookup : IsX K (clV K (.glo "BadLookup")) xs_BadLookup
  xs_BadName : IsX K (clV K (.glo "BadName")) xs_BadName
  xs_BadPower : IsX K (clV K (.glo "BadPower")) xs_BadPower
  xs_BadRow : IsX K (clV K (.glo "BadRow")) xs_BadRow
  xs_Contradiction : IsX K (clV K (.glo "Contradiction")) xs_Contradiction
  xs_FoundError : IsX K (clV K (.glo "FoundError")) xs_FoundError
  xs_HasLoop : IsX K (clV K (.glo "HasLoop")) xs_HasLoop
  xs_NoChoice : IsX K (clV K (.glo "NoChoice")) xs_NoChoice
  xs_NoFailing : IsX K (clV K (.glo "NoFailing")) xs_NoFailing
  xs_NoIndex : IsX K (clV K (.glo "NoIndex")) xs_NoIndex
  xs_NoLookup : IsX K (clV K (.glo "NoLookup")) xs_NoLookup
  xs_NoName : IsX K (clV K (.glo "NoName")) xs_NoName
  xs_NoPair : IsX K (clV K (.glo "NoPair")) xs_NoPair
  xs_NoParting : IsX K (clV K (.glo "NoParting")) xs_NoParting
  xs_NoRow : IsX K (clV K (.glo "NoRow")) xs_NoRow
  xs_NoSpelling : IsX K (clV K (.glo "NoSpelling")) xs_NoSpelling
  xs_NotFoldable : IsX K (clV K (.glo "NotFoldable")) xs_NotFoldable
  xs_NothingDone : IsX K (clV K (.glo "NothingDone")) xs_NothingDone
  xs_OneValue : IsX K (clV K (.glo "OneValue")) xs_OneValue
  xs_QuietLoop : IsX K (clV K (.glo "QuietLoop")) xs_QuietLoop
  xs_Unset : IsX K (clV K (.glo "Unset")) xs_Unset
  xs_ValueError : IsX K (clV K (.ty "ValueError")) xs_ValueError
  d_BadRow_init : ∃ fd, FunD K "__init__" "BadRow.__init__" (defArgs st_BadRow_init) (defBody st_BadRow_init) (defScope st_BadRow_init) [] [] (He.ma K (He.ga K "BadRow") "__init__") fd
  d_Unset_init : ∃ fd, FunD K "__init__" "Unset.__init__" (defArgs st_Unset_init) (defBody st_Unset_init) (defScope st_Unset_init) [] [] (He.ma K (He.ga K "Unset") "__init__") fd
  d_NoRow_init : ∃ fd, FunD K "__init__" "NoRow.__init__" (defArgs st_NoRow_init) (defBody st_NoRow_init) (defScope st_NoRow_init) [] [] (He.ma K (He.ga K "NoRow") "__init__") fd
  d_BadLine_init : ∃ fd, FunD K "__init__" "BadLine.__init__" (defArgs st_BadLine_init) (defBody st_BadLine_init) (defScope st_BadLine_init) [] [] (He.ma K (He.ga K "BadLine") "__init__") fd
  d_NoChoice_init : ∃ fd, FunD K "__init__" "NoChoice.__init__" (defArgs st_NoChoice_init) (defBody st_NoChoice_init) (defScope st_NoChoice_init) [] [] (He.ma K (He.ga K "NoChoice") "__init__") fd
  d_BadLookup_init : ∃ fd, FunD K "__init__" "BadLookup.__init__" (defArgs st_BadLookup_init) (defBody st_BadLookup_init) (defScope st_BadLookup_init) [] [] (He.ma K (He.ga K "BadLookup") "__init__") fd
  d_OneValue_init : ∃ fd, FunD K "__init__" "OneValue.__init__" (defArgs st_OneValue_init) (defBody st_OneValue_init) (defScope st_OneValue_init) [] [] (He.ma K (He.ga K "OneValue") "__init__") fd
  d_NoLookup_init : ∃ fd, FunD K "__init__" "NoLookup.__init__" (defArgs st_NoLookup_init) (defBody st_NoLookup_init) (defScope st_NoLookup_init) [] [] (He.ma K (He.ga K "NoLookup") "__init__") fd
  d_QuietLoop_init : ∃ fd, FunD K "__init__" "QuietLoop.__init__" (defArgs st_QuietLoop_init) (defBody st_QuietLoop_init) (defScope st_QuietLoop_init) [] [] (He.ma K (He.ga K "QuietLoop") "__init__") fd
  d_NoFailing_init : ∃ fd, FunD K "__init__" "NoFailing.__init__" (defArgs st_NoFailing_init) (defBody st_NoFailing_init) (defScope st_NoFailing_init) [] [] (He.ma K (He.ga K "NoFailing") "__init__") fd
  d_NoIndex_init : ∃ fd, FunD K "__init__" "NoIndex.__init__" (defArgs st_NoIndex_init) (defBody st_NoIndex_init) (defScope st_NoIndex_init) [] [] (He.ma K (He.ga K "NoIndex") "__init__") fd
  d_NoPair_init : ∃ fd, FunD K "__init__" "NoPair.__init__" (defArgs st_NoPair_init) (defBody st_NoPair_init) (defScope st_NoPair_init) [] [] (He.ma K (He.ga K "NoPair") "__init__") fd
  d_NotFoldable_init : ∃ fd, FunD K "__init__" "NotFoldable.__init__" (defArgs st_NotFoldable_init) (defBody st_NotFoldable_init) (defScope st_NotFoldable_init) [] [] (He.ma K (He.ga K "NotFoldable") "__init__") fd
  d_NoSpelling_init : ∃ fd, FunD K "__init__" "NoSpelling.__init__" (defArgs st_NoSpelling_init) (defBody st_NoSpelling_init) (defScope st_NoSpelling_init) [] [] (He.ma K (He.ga K "NoSpelling") "__init__") fd
  d_BadName_init : ∃ fd, FunD K "__init__" "BadName.__init__" (defArgs st_BadName_init) (defBody st_BadName_init) (defScope st_BadName_init) [] [] (He.ma K (He.ga K "BadName") "__init__") fd
  d_NoName_init : ∃ fd, FunD K "__init__" "NoName.__init__" (defArgs st_NoName_init) (defBody st_NoName_init) (defScope st_NoName_init) [] [] (He.ma K (He.ga K "NoName") "__init__") fd
  d_BadChoice_init : ∃ fd, FunD K "__init__" "BadChoice.__init__" (defArgs st_BadChoice_init) (defBody st_BadChoice_init) (defScope st_BadChoice_init) [] [] (He.ma K (He.ga K "BadChoice") "__init__") fd
  d_BadPower_init : ∃ fd, FunD K "__init__" "BadPower.__init__" (defArgs st_BadPower_init) (defBody st_BadPower_init) (defScope st_BadPower_init) [] [] (He.ma K (He.ga K "BadPower") "__init__") fd
  d_l_bag : ∃ fd, FunD K "_law_bag" "_law_bag" (defArgs st_l_bag) (defBody st_l_bag) (defScope st_l_bag) [] [] (He.ga K "_law_bag") fd
  d_l_fields : ∃ fd, FunD K "_law_fields" "_law_fields" (defArgs st_l_fields) (defBody st_l_fields) (defScope st_l_fields) [] [] (He.ga K "_law_fields") fd
  d_l_take : ∃ fd, FunD K "_law_take" "_law_take" (defArgs st_l_take) (defBody st_l_take) (defScope st_l_take) [] [] (He.ga K "_law_take") fd
  d_l_any : ∃ fd, FunD K "_law_any" "_law_any" (defArgs st_l_any) (defBody st_l_any) (defScope st_l_any) [] [] (He.ga K "_law_any") fd
  d_l_errors : ∃ fd, FunD K "_law_errors" "_law_errors" (defArgs st_l_errors) (defBody st_l_errors) (defScope st_l_errors) [] [] (He.ga K "_law_errors") fd
  d_l_alike : ∃ fd, FunD K "_law_alike" "_law_alike" (defArgs st_l_alike) (defBody st_l_alike) (defScope st_l_alike) [] [] (He.ga K "_law_alike") fd
  d_l_flags : ∃ fd, FunD K "_law_flags" "_law_flags" (defArgs st_l_flags) (defBody st_l_flags) (defScope st_l_flags) [] [] (He.ga K "_law_flags") fd
  d_law : ∃ fd, FunD K "law" "law" (defArgs st_law) (defBody st_law) (defScope st_law) [] [] (He.ga K "law") fd
def Fn.ok (P : Program) (w : World) (K : PySem.W.Frag) (mg : Str → Option Value) (base : Heap) (k : Nat) : Fn → DF → Prop
  | .BadRow_init, g => FX P w K mg base k "BadRow" ["path"] g
  | .Unset_init, g => FX P w K mg base k "Unset" ["name"] g
  | .NoRow_init, g => FX P w K mg base k "NoRow" ["index"] g
  | .BadLine_init, g => FX P w K mg base k "BadLine" ["line"] g
  | .NoChoice_init, g => FX P w K mg base k "NoChoice" ["choice"] g
  | .BadLookup_init, g => FX P w K mg base k "BadLookup" ["lookup"] g
  | .OneValue_init, g => FX P w K mg base k "OneValue" ["value"] g
  | .NoLookup_init, g => FX P w K mg base k "NoLookup" ["lookup"] g
  | .QuietLoop_init, g => FX P w K mg base k "QuietLoop" ["sign"] g
  | .NoFailing_init, g => FX P w K mg base k "NoFailing" ["index"] g
  | .NoIndex_init, g => FX P w K mg base k "NoIndex" ["index"] g
  | .NoPair_init, g => FX P w K mg base k "NoPair" ["pair"] g
  | .NotFoldable_init, g => FX P w K mg base k "NotFoldable" ["name"] g
  | .NoSpelling_init, g => FX P w K mg base k "NoSpelling" ["word"] g
  | .BadName_init, g => FX P w K mg base k "BadName" ["name"] g
  | .NoName_init, g => FX P w K mg base k "NoName" ["name"] g
  | .BadChoice_init, g => FX P w K mg base k "BadChoice" ["choice", "value"] g
  | .BadPower_init, g => FX P w K mg base k "BadPower" ["sign", "power"] g
  | .l_bag, g => FD P w K mg base k "_law_bag" g
  | .l_fields, g => FD P w K mg base k "_law_fields" g
  | .l_take, g => FD P w K mg base k "_law_take" g
  | .l_any, g => FD P w K mg base k "_law_any" g
  | .l_errors, g => FD P w K mg base k "_law_errors" g
  | .l_alike, g => FD P w K mg base k "_law_alike" g
  | .l_flags, g => FD P w K mg base k "_law_flags" g
  | .law, g => FD P w K mg base k "law" g
def OkC (P : Program) (w : World) (K : PySem.W.Frag) (mg : Str → Option Value) (base : Heap) (k : Nat) (c : Fn → DF) : Prop := ∀ f, Fn.ok P w K mg base k f (c f)
theorem okf_BadRow_init {P : Program} {w : World} {K : PySem.W.Frag} {mg : Str → Option Value} {base : Heap} {k : Nat} {c : Fn → DF} (ih : OkC P w K mg base k c) : FX P w K mg base k "BadRow" ["path"] (c .BadRow_init) := ih .BadRow_init
theorem okf_Unset_init {P : Program} {w : World} {K : PySem.W.Frag} {mg : Str → Option Value} {base : Heap} {k : Nat} {c : Fn → DF} (ih : OkC P w K mg base k c) : FX P w K mg base k "Unset" ["name"] (c .Unset_init) := ih .Unset_init
theorem okf_NoRow_init {P : Program} {w : World} {K : PySem.W.Frag} {mg : Str → Option Value} {base : Heap} {k : Nat} {c : Fn → DF} (ih : OkC P w K mg base k c) : FX P w K mg base k "NoRow" ["index"] (c .NoRow_init) := ih .NoRow_init
theorem okf_BadLine_init {P : Program} {w : World} {K : PySem.W.Frag} {mg : Str → Option Value} {base : Heap} {k : Nat} {c : Fn → DF} (ih : OkC P w K mg base k c) : FX P w K mg base k "BadLine" ["line"] (c .BadLine_init) := ih .BadLine_init
theorem okf_NoChoice_init {P : Program} {w : World} {K : PySem.W.Frag} {mg : Str → Option Value} {base : Heap} {k : Nat} {c : Fn → DF} (ih : OkC P w K mg base k c) : FX P w K mg base k "NoChoice" ["choice"] (c .NoChoice_init) := ih .NoChoice_init
theorem okf_BadLookup_init {P : Program} {w : World} {K : PySem.W.Frag} {mg : Str → Option Value} {base : Heap} {k : Nat} {c : Fn → DF} (ih : OkC P w K mg base k c) : FX P w K mg base k "BadLookup" ["lookup"] (c .BadLookup_init) := ih .BadLookup_init
theorem okf_OneValue_init {P : Program} {w : World} {K : PySem.W.Frag} {mg : Str → Option Value} {base : Heap} {k : Nat} {c : Fn → DF} (ih : OkC P w K mg base k c) : FX P w K mg base k "OneValue" ["value"] (c .OneValue_init) := ih .OneValue_init
theorem okf_NoLookup_init {P : Program} {w : World} {K : PySem.W.Frag} {mg : Str → Option Value} {base : Heap} {k : Nat} {c : Fn → DF} (ih : OkC P w K mg base k c) : FX P w K mg base k "NoLookup" ["lookup"] (c .NoLookup_init) := ih .NoLookup_init
theorem okf_QuietLoop_init {P : Program} {w : World} {K : PySem.W.Frag} {mg : Str → Option Value} {base : Heap} {k : Nat} {c : Fn → DF} (ih : OkC P w K mg base k c) : FX P w K mg base k "QuietLoop" ["sign"] (c .QuietLoop_init) := ih .QuietLoop_init
theorem okf_NoFailing_init {P : Program} {w : World} {K : PySem.W.Frag} {mg : Str → Option Value} {base : Heap} {k : Nat} {c : Fn → DF} (ih : OkC P w K mg base k c) : FX P w K mg base k "NoFailing" ["index"] (c .NoFailing_init) := ih .NoFailing_init
theorem okf_NoIndex_init {P : Program} {w : World} {K : PySem.W.Frag} {mg : Str → Option Value} {base : Heap} {k : Nat} {c : Fn → DF} (ih : OkC P w K mg base k c) : FX P w K mg base k "NoIndex" ["index"] (c .NoIndex_init) := ih .NoIndex_init
theorem okf_NoPair_init {P : Program} {w : World} {K : PySem.W.Frag} {mg : Str → Option Value} {base : Heap} {k : Nat} {c : Fn → DF} (ih : OkC P w K mg base k c) : FX P w K mg base k "NoPair" ["pair"] (c .NoPair_init) := ih .NoPair_init
theorem okf_NotFoldable_init {P : Program} {w : World} {K : PySem.W.Frag} {mg : Str → Option Value} {base : Heap} {k : Nat} {c : Fn → DF} (ih : OkC P w K mg base k c) : FX P w K mg base k "NotFoldable" ["name"] (c .NotFoldable_init) := ih .NotFoldable_init
theorem okf_NoSpelling_init {P : Program} {w : World} {K : PySem.W.Frag} {mg : Str → Option Value} {base : Heap} {k : Nat} {c : Fn → DF} (ih : OkC P w K mg base k c) : FX P w K mg base k "NoSpelling" ["word"] (c .NoSpelling_init) := ih .NoSpelling_init
theorem okf_BadName_init {P : Program} {w : World} {K : PySem.W.Frag} {mg : Str → Option Value} {base : Heap} {k : Nat} {c : Fn → DF} (ih : OkC P w K mg base k c) : FX P w K mg base k "BadName" ["name"] (c .BadName_init) := ih .BadName_init
theorem okf_NoName_init {P : Program} {w : World} {K : PySem.W.Frag} {mg : Str → Option Value} {base : Heap} {k : Nat} {c : Fn → DF} (ih : OkC P w K mg base k c) : FX P w K mg base k "NoName" ["name"] (c .NoName_init) := ih .NoName_init
theorem okf_BadChoice_init {P : Program} {w : World} {K : PySem.W.Frag} {mg : Str → Option Value} {base : Heap} {k : Nat} {c : Fn → DF} (ih : OkC P w K mg base k c) : FX P w K mg base k "BadChoice" ["choice", "value"] (c .BadChoice_init) := ih .BadChoice_init
theorem okf_BadPower_init {P : Program} {w : World} {K : PySem.W.Frag} {mg : Str → Option Value} {base : Heap} {k : Nat} {c : Fn → DF} (ih : OkC P w K mg base k c) : FX P w K mg base k "BadPower" ["sign", "power"] (c .BadPower_init) := ih .BadPower_init
theorem okf_l_bag {P : Program} {w : World} {K : PySem.W.Frag} {mg : Str → Option Value} {base : Heap} {k : Nat} {c : Fn → DF} (ih : OkC P w K mg base k c) : FD P w K mg base k "_law_bag" (c .l_bag) := ih .l_bag
theorem okf_l_fields {P : Program} {w : World} {K : PySem.W.Frag} {mg : Str → Option Value} {base : Heap} {k : Nat} {c : Fn → DF} (ih : OkC P w K mg base k c) : FD P w K mg base k "_law_fields" (c .l_fields) := ih .l_fields
theorem okf_l_take {P : Program} {w : World} {K : PySem.W.Frag} {mg : Str → Option Value} {base : Heap} {k : Nat} {c : Fn → DF} (ih : OkC P w K mg base k c) : FD P w K mg base k "_law_take" (c .l_take) := ih .l_take
theorem okf_l_any {P : Program} {w : World} {K : PySem.W.Frag} {mg : Str → Option Value} {base : Heap} {k : Nat} {c : Fn → DF} (ih : OkC P w K mg base k c) : FD P w K mg base k "_law_any" (c .l_any) := ih .l_any
theorem okf_l_errors {P : Program} {w : World} {K : PySem.W.Frag} {mg : Str → Option Value} {base : Heap} {k : Nat} {c : Fn → DF} (ih : OkC P w K mg base k c) : FD P w K mg base k "_law_errors" (c .l_errors) := ih .l_errors
theorem okf_l_alike {P : Program} {w : World} {K : PySem.W.Frag} {mg : Str → Option Value} {base : Heap} {k : Nat} {c : Fn → DF} (ih : OkC P w K mg base k c) : FD P w K mg base k "_law_alike" (c .l_alike) := ih .l_alike
theorem okf_l_flags {P : Program} {w : World} {K : PySem.W.Frag} {mg : Str → Option Value} {base : Heap} {k : Nat} {c : Fn → DF} (ih : OkC P w K mg base k c) : FD P w K mg base k "_law_flags" (c .l_flags) := ih .l_flags
section
variable {P : Program} {w : World} {K : PySem.W.Frag} {mg : Str → Option Value} {base : Heap} {k : Nat} {c : Fn → DF}
theorem fd_BadRow_init (T : Tx K w mg) (hs : SysB base) (ih : OkC P w K mg base k c) : FX P w K mg base (k + 2) "BadRow" ["path"] (g_BadRow_init c) :=
  fx_mk T.d_BadRow_init T.g_BadRow T.xc_BadRow sc_BadRow_init bi_BadRow_init rfl fun cdv A up s H E => pss_xi1 rfl T.g_FoundError T.fe_FoundError
theorem fd_Unset_init (T : Tx K w mg) (hs : SysB base) (ih : OkC P w K mg base k c) : FX P w K mg base (k + 2) "Unset" ["name"] (g_Unset_init c) :=
  fx_mk T.d_Unset_init T.g_Unset T.xc_Unset sc_Unset_init bi_Unset_init rfl fun cdv A up s H E => pss_xi1 rfl T.g_FoundError T.fe_FoundError
theorem fd_NoRow_init (T : Tx K w mg) (hs : SysB base) (ih : OkC P w K mg base k c) : FX P w K mg base (k + 2) "NoRow" ["index"] (g_NoRow_init c) :=
  fx_mk T.d_NoRow_init T.g_NoRow T.xc_NoRow sc_NoRow_init bi_NoRow_init rfl fun cdv A up s H E => pss_xi1 rfl T.g_FoundError T.fe_FoundError
theorem fd_BadLine_init (T : Tx K w mg) (hs : SysB base) (ih : OkC P w K mg base k c) : FX P w K mg base (k + 2) "BadLine" ["line"] (g_BadLine_init c) :=
  fx_mk T.d_BadLine_init T.g_BadLine T.xc_BadLine sc_BadLine_init bi_BadLine_init rfl fun cdv A up s H E => pss_xi1 rfl T.g_FoundError T.fe_FoundError
theorem fd_NoChoice_init (T : Tx K w mg) (hs : SysB base) (ih : OkC P w K mg base k c) : FX P w K mg base (k + 2) "NoChoice" ["choice"] (g_NoChoice_init c) :=
  fx_mk T.d_NoChoice_init T.g_NoChoice T.xc_NoChoice sc_NoChoice_init bi_NoChoice_init rfl fun cdv A up s H E => pss_xi1 rfl T.g_FoundError T.fe_FoundError
theorem fd_BadLookup_init (T : Tx K w mg) (hs : SysB base) (ih : OkC P w K mg base k c) : FX P w K mg base (k + 2) "BadLookup" ["lookup"] (g_BadLookup_init c) :=
  fx_mk T.d_BadLookup_init T.g_BadLookup T.xc_BadLookup sc_BadLookup_init bi_BadLookup_init rfl fun cdv A up s H E => pss_xi1 rfl T.g_FoundError T.fe_FoundError
theorem fd_OneValue_init (T : Tx K w mg) (hs : SysB base) (ih : OkC P w K mg base k c) : FX P w K mg base (k + 2) "OneValue" ["value"] (g_OneValue_init c) :=
  fx_mk T.d_OneValue_init T.g_OneValue T.xc_OneValue sc_OneValue_init bi_OneValue_init rfl fun cdv A up s H E => pss_xi1 rfl T.g_FoundError T.fe_FoundError
theorem fd_NoLookup_init (T : Tx K w mg) (hs : SysB base) (ih : OkC P w K mg base k c) : FX P w K mg base (k + 2) "NoLookup" ["lookup"] (g_NoLookup_init c) :=
  fx_mk T.d_NoLookup_init T.g_NoLookup T.xc_NoLookup sc_NoLookup_init bi_NoLookup_init rfl fun cdv A up s H E => pss_xi1 rfl T.g_FoundError T.fe_FoundError
theorem fd_QuietLoop_init (T : Tx K w mg) (hs : SysB base) (ih : OkC P w K mg base k c) : FX P w K mg base (k + 2) "QuietLoop" ["sign"] (g_QuietLoop_init c) :=
  fx_mk T.d_QuietLoop_init T.g_QuietLoop T.xc_QuietLoop sc_QuietLoop_init bi_QuietLoop_init rfl fun cdv A up s H E => pss_xi1 rfl T.g_FoundError T.fe_FoundError
theorem fd_NoFailing_init (T : Tx K w mg) (hs : SysB base) (ih : OkC P w K mg base k c) : FX P w K mg base (k + 2) "NoFailing" ["index"] (g_NoFailing_init c) :=
  fx_mk T.d_NoFailing_init T.g_NoFailing T.xc_NoFailing sc_NoFailing_init bi_NoFailing_init rfl fun cdv A up s H E => pss_xi1 rfl T.g_FoundError T.fe_FoundError
theorem fd_NoIndex_init (T : Tx K w mg) (hs : SysB base) (ih : OkC P w K mg base k c) : FX P w K mg base (k + 2) "NoIndex" ["index"] (g_NoIndex_init c) :=
  fx_mk T.d_NoIndex_init T.g_NoIndex T.xc_NoIndex sc_NoIndex_init bi_NoIndex_init rfl fun cdv A up s H E => pss_xi1 rfl T.g_FoundError T.fe_FoundError
theorem fd_NoPair_init (T : Tx K w mg) (hs : SysB base) (ih : OkC P w K mg base k c) : FX P w K mg base (k + 2) "NoPair" ["pair"] (g_NoPair_init c) :=
  fx_mk T.d_NoPair_init T.g_NoPair T.xc_NoPair sc_NoPair_init bi_NoPair_init rfl fun cdv A up s H E => pss_xi1 rfl T.g_FoundError T.fe_FoundError
theorem fd_NotFoldable_init (T : Tx K w mg) (hs : SysB base) (ih : OkC P w K mg base k c) : FX P w K mg base (k + 2) "NotFoldable" ["name"] (g_NotFoldable_init c) :=
  fx_mk T.d_NotFoldable_init T.g_NotFoldable T.xc_NotFoldable sc_NotFoldable_init bi_NotFoldable_init rfl fun cdv A up s H E => pss_xi1 rfl T.g_FoundError T.fe_FoundError
theorem fd_NoSpelling_init (T : Tx K w mg) (hs : SysB base) (ih : OkC P w K mg base k c) : FX P w K mg base (k + 2) "NoSpelling" ["word"] (g_NoSpelling_init c) :=
  fx_mk T.d_NoSpelling_init T.g_NoSpelling T.xc_NoSpelling sc_NoSpelling_init bi_NoSpelling_init rfl fun cdv A up s H E => pss_xi1 rfl T.g_FoundError T.fe_FoundError
theorem fd_BadName_init (T : Tx K w mg) (hs : SysB base) (ih : OkC P w K mg base k c) : FX P w K mg base (k + 2) "BadName" ["name"] (g_BadName_init c) :=
  fx_mk T.d_BadName_init T.g_BadName T.xc_BadName sc_BadName_init bi_BadName_init rfl fun cdv A up s H E => pss_xi1 rfl T.g_FoundError T.fe_FoundError
theorem fd_NoName_init (T : Tx K w mg) (hs : SysB base) (ih : OkC P w K mg base k c) : FX P w K mg base (k + 2) "NoName" ["name"] (g_NoName_init c) :=
  fx_mk T.d_NoName_init T.g_NoName T.xc_NoName sc_NoName_init bi_NoName_init rfl fun cdv A up s H E => pss_xi1 rfl T.g_FoundError T.fe_FoundError
theorem fd_BadChoice_init (T : Tx K w mg) (hs : SysB base) (ih : OkC P w K mg base k c) : FX P w K mg base (k + 2) "BadChoice" ["choice", "value"] (g_BadChoice_init c) :=
  fx_mk T.d_BadChoice_init T.g_BadChoice T.xc_BadChoice sc_BadChoice_init bi_BadChoice_init rfl fun cdv A up s H E => pss_xi2 rfl T.g_FoundError T.fe_FoundError
theorem fd_BadPower_init (T : Tx K w mg) (hs : SysB base) (ih : OkC P w K mg base k c) : FX P w K mg base (k + 2) "BadPower" ["sign", "power"] (g_BadPower_init c) :=
  fx_mk T.d_BadPower_init T.g_BadPower T.xc_BadPower sc_BadPower_init bi_BadPower_init rfl fun cdv A up s H E => pss_xi2 rfl T.g_FoundError T.fe_FoundError
theorem fd_l_bag (T : Tx K w mg) (hs : SysB base) (ih : OkC P w K mg base k c) : FD P w K mg base (k + 2) "_law_bag" (g_l_bag c) :=
  fd_mk T.d_l_bag T.g_l_bag sc_l_bag bi_l_bag rfl rfl fun cdv A up s H E hr tk pw =>
    (qss_one (qs_ret (qe_new (qf_lst (qa_cons qe_int (qa_cons qe_int (qa_cons qe_int (qa_cons (qe_frz (qf_lc (own := [("_law_cell", 1)]) rfl sc_l_bag.nd (qi_seq (qe_cut (qx (qe_var 0)) qo_none (qo_some qe_int))) (blkOk_by (own := [("_law_cell", 1)]) (N := ["_law_script", "_law_cell"]) (sc := defScope st_l_bag) (by decide +kernel)) (fun _ _ _ _ _ => (qg_name sc_l_bag.nd 1)) (fun _ _ _ _ _ => qts_nil) (fun _ _ _ _ _ => (qe_callB call_abs cas_abs T.f_abs (by decide +kernel) (qxs_cons (qx (qe_var 1)) qxs_nil))))) qa_nil))))))))
theorem fd_l_fields (T : Tx K w mg) (hs : SysB base) (ih : OkC P w K mg base k c) : FD P w K mg base (k + 2) "_law_fields" (g_l_fields c) :=
  fd_mk T.d_l_fields T.g_l_fields sc_l_fields bi_l_fields rfl rfl fun cdv A up s H E hr tk pw =>
    (qss_cons (qs_asg sc_l_fields.nd 1 (qe_frz (qf_lst (qa_cons (qe_xf T.xt (qe_ix (qx (qe_var 0)) (qx qe_int))) (qa_cons (qe_xf T.xt (qe_ix (qx (qe_var 0)) (qx qe_int))) (qa_cons (qe_xf T.xt (qe_ix (qx (qe_var 0)) (qx qe_int))) (qa_cons (qe_xf T.xt (qe_ix (qx (qe_var 0)) (qx qe_int))) (qa_cons (qe_xf T.xt (qe_ix (qx (qe_var 0)) (qx qe_int))) (qa_cons (qe_xf T.xt (qe_ix (qx (qe_var 0)) (qx qe_int))) qa_nil))))))))) (qss_cons (qs_asg sc_l_fields.nd 1 (qe_add (qx (qe_var 1)) (qx (qe_frz (qf_lst (qa_cons (qe_xf T.xt (qe_ix (qx (qe_var 0)) (qx qe_int))) (qa_cons (qe_xf T.xt (qe_ix (qx (qe_var 0)) (qx qe_int))) (qa_cons (qe_xf T.xt (qe_ix (qx (qe_var 0)) (qx qe_int))) (qa_cons (qe_xf T.xt (qe_ix (qx (qe_var 0)) (qx qe_int))) (qa_cons (qe_xf T.xt (qe_ix (qx (qe_var 0)) (qx qe_int))) (qa_cons (qe_xf T.xt (qe_ix (qx (qe_var 0)) (qx qe_int))) qa_nil))))))))))) (qss_cons (qs_asg sc_l_fields.nd 1 (qe_add (qx (qe_var 1)) (qx (qe_frz (qf_lst (qa_cons (qe_xf T.xt (qe_ix (qx (qe_var 0)) (qx qe_int))) (qa_cons (qe_xf T.xt (qe_ix (qx (qe_var 0)) (qx qe_int))) (qa_cons (qe_xf T.xt (qe_ix (qx (qe_var 0)) (qx qe_int))) (qa_cons (qe_xf T.xt (qe_ix (qx (qe_var 0)) (qx qe_int))) (qa_cons (qe_xf T.xt (qe_ix (qx (qe_var 0)) (qx qe_int))) (qa_cons (qe_xf T.xt (qe_ix (qx (qe_var 0)) (qx qe_int))) qa_nil))))))))))) (qss_one (qs_ret (qe_add (qx (qe_var 1)) (qx (qe_frz (qf_lst (qa_cons (qe_xf T.xt (qe_ix (qx (qe_var 0)) (qx qe_int))) (qa_cons (qe_xf T.xt (qe_ix (qx (qe_var 0)) (qx qe_int))) qa_nil)))))))))))
theorem fd_l_take (T : Tx K w mg) (hs : SysB base) (ih : OkC P w K mg base k c) : FD P w K mg base (k + 2) "_law_take" (g_l_take c) :=
  fd_mk T.d_l_take T.g_l_take sc_l_take bi_l_take rfl rfl fun cdv A up s H E hr tk pw =>
    (qss_cons (qs_if (qt_eq hr.r (qx (qe_ix (qx (qe_var 0)) (qx qe_int))) (qx qe_int)) (qss_cons (qs_asg sc_l_take.nd 2 qe_int) (qss_cons (qs_if (qt_lt (qx (qe_ix (qx (qe_var 0)) (qx qe_int))) (qx (qe_callB call_len cas_len T.f_len (by decide +kernel) (qxs_cons (qx (qe_ix (qx (qe_var 0)) (qx qe_int))) qxs_nil)))) (qss_one (qs_asg sc_l_take.nd 2 (qe_ix (qx (qe_ix (qx (qe_var 0)) (qx qe_int))) (qx (qe_ix (qx (qe_var 0)) (qx qe_int)))))) qss_nil) (qss_cons (qs_augI ip_add ips_add (qe_var 0) qe_int qe_int) (qss_cons (qs_if (qt_ge (qx (qe_var 2)) (qx qe_int)) (qss_one (qs_setI (qe_var 0) qe_int (qe_var 2))) qss_nil) (qss_cons (qs_asg sc_l_take.nd 3 (qe_add (qx (qe_add (qx (qe_mul (qx (qe_ix (qx (qe_var 0)) (qx qe_int))) (qx qe_int))) (qx (qe_mod (qx (qe_callTy call_int2 cas_int2 T.f_int (by decide +kernel) (qxs_cons (qx (qe_var 2)) qxs_nil))) (qx qe_int))))) (qx (qe_mul (qx qe_int) (qx (qe_ix (qx (qe_var 0)) (qx qe_int))))))) (qss_one (qs_setI (qe_var 0) qe_int (qe_mod (qx (qe_callTy call_int2 cas_int2 T.f_int (by decide +kernel) (qxs_cons (qx (qe_var 3)) qxs_nil))) (qx qe_int))))))))) qss_nil) (qss_cons (qs_if (qt_gt (qx (qe_ix (qx (qe_var 0)) (qx qe_int))) (qx qe_int)) (qss_cons (qs_asg sc_l_take.nd 4 (qe_mod (qx (qe_callTy call_int2 cas_int2 T.f_int (by decide +kernel) (qxs_cons (qx (qe_ix (qx (qe_var 0)) (qx qe_int))) qxs_nil))) (qx (qe_var 1)))) (qss_cons (qs_setI (qe_var 0) qe_int (qe_fdiv (qx (qe_callTy call_int2 cas_int2 T.f_int (by decide +kernel) (qxs_cons (qx (qe_ix (qx (qe_var 0)) (qx qe_int))) qxs_nil))) (qx (qe_var 1)))) (qss_one (qs_ret (qe_var 4))))) qss_nil) (qss_cons (qs_asg sc_l_take.nd 5 (qe_mod (qx (qe_callTy call_int2 cas_int2 T.f_int (by decide +kernel) (qxs_cons (qx (qe_mul (qx (qe_add (qx (qe_ix (qx (qe_var 0)) (qx qe_int))) (qx qe_int))) (qx qe_int))) qxs_nil))) (qx qe_int))) (qss_cons (qs_asg sc_l_take.nd 6 (qe_mod (qx (qe_callTy call_int2 cas_int2 T.f_int (by decide +kernel) (qxs_cons (qx (qe_mul (qx (qe_mod (qx (qe_callTy call_int2 cas_int2 T.f_int (by decide +kernel) (qxs_cons (qx (qe_mul (qx (qe_var 5)) (qx (qe_var 5)))) qxs_nil))) (qx qe_int))) (qx qe_int))) qxs_nil))) (qx qe_int))) (qss_one (qs_ret (qe_mod (qx (qe_callTy call_int2 cas_int2 T.f_int (by decide +kernel) (qxs_cons (qx (qe_fdiv (qx (qe_var 6)) (qx qe_int))) qxs_nil))) (qx (qe_var 1)))))))))
theorem fd_l_any (T : Tx K w mg) (hs : SysB base) (ih : OkC P w K mg base k c) : FD P w K mg base (k + 2) "_law_any" (g_l_any c) :=
  fd_mk T.d_l_any T.g_l_any sc_l_any bi_l_any rfl rfl fun cdv A up s H E hr tk pw =>
    (qss_cons (qs_asg sc_l_any.nd 1 (qe_frz (qf_lst (qa_cons qe_non (qa_cons qe_bl (qa_cons qe_int (qa_cons (qe_pow (qx qe_int) (qx qe_int)) (qa_cons qe_str (qa_cons (qe_tup qa_nil) (qa_cons (qe_hdlN (qn_d qd_nil)) (qa_cons (qe_tup (qa_cons qe_str (qa_cons qe_str qa_nil))) (qa_cons (qe_neg qe_int) qa_nil)))))))))))) (qss_one (qs_ret (qe_if (qt_eq hr.r (qx (qe_call (okf_l_take ih) hr tk (qa_cons (qe_var 0) (qa_cons qe_int qa_nil)))) (qx qe_int)) (qe_ix (qx (qe_var 1)) (qx (qe_call (okf_l_take ih) hr tk (qa_cons (qe_var 0) (qa_cons qe_int qa_nil))))) (qe_new (qf_lst (qa_cons (qe_call (okf_l_take ih) hr tk (qa_cons (qe_var 0) (qa_cons qe_int qa_nil))) qa_nil)))))))
theorem fd_l_errors (T : Tx K w mg) (hs : SysB base) (ih : OkC P w K mg base k c) : FD P w K mg base (k + 2) "_law_errors" (g_l_errors c) :=
  fd_mk T.d_l_errors T.g_l_errors sc_l_errors bi_l_errors rfl rfl fun cdv A up s H E hr tk pw =>
    (qss_cons (qs_asg sc_l_errors.nd 2 (qe_frz (qf_lst (qa_cons (qe_exc (okf_BadRow_init ih) hr (by decide) (qa_cons (qe_var 0) qa_nil)) (qa_cons (qe_exc (okf_Unset_init ih) hr (by decide) (qa_cons (qe_var 0) qa_nil)) (qa_cons (qe_exc (okf_NoRow_init ih) hr (by decide) (qa_cons (qe_var 0) qa_nil)) (qa_cons (qe_exc (okf_BadLine_init ih) hr (by decide) (qa_cons (qe_var 0) qa_nil)) (qa_cons (qe_exc (okf_NoChoice_init ih) hr (by decide) (qa_cons (qe_var 0) qa_nil)) (qa_cons (qe_exc (okf_BadLookup_init ih) hr (by decide) (qa_cons (qe_var 0) qa_nil)) (qa_cons (qe_exc (okf_OneValue_init ih) hr (by decide) (qa_cons (qe_var 0) qa_nil)) (qa_cons (qe_exc (okf_NoLookup_init ih) hr (by decide) (qa_cons (qe_var 0) qa_nil)) qa_nil))))))))))) (qss_cons (qs_asg sc_l_errors.nd 2 (qe_add (qx (qe_var 2)) (qx (qe_frz (qf_lst (qa_cons (qe_exc (okf_QuietLoop_init ih) hr (by decide) (qa_cons (qe_var 0) qa_nil)) (qa_cons (qe_exc (okf_NoFailing_init ih) hr (by decide) (qa_cons (qe_var 0) qa_nil)) (qa_cons (qe_exc (okf_NoIndex_init ih) hr (by decide) (qa_cons (qe_var 0) qa_nil)) (qa_cons (qe_exc (okf_NoPair_init ih) hr (by decide) (qa_cons (qe_var 0) qa_nil)) (qa_cons (qe_exc (okf_NotFoldable_init ih) hr (by decide) (qa_cons (qe_var 0) qa_nil)) (qa_cons (qe_exc (okf_NoSpelling_init ih) hr (by decide) (qa_cons (qe_var 0) qa_nil)) (qa_cons (qe_exc (okf_BadName_init ih) hr (by decide) (qa_cons (qe_var 0) qa_nil)) qa_nil)))))))))))) (qss_cons (qs_asg sc_l_errors.nd 2 (qe_add (qx (qe_var 2)) (qx (qe_frz (qf_lst (qa_cons (qe_exc (okf_NoName_init ih) hr (by decide) (qa_cons (qe_var 0) qa_nil)) (qa_cons (qe_exc (okf_BadChoice_init ih) hr (by decide) (qa_cons (qe_var 0) (qa_cons (qe_var 1) qa_nil))) (qa_cons (qe_exc (okf_BadPower_init ih) hr (by decide) (qa_cons (qe_var 0) (qa_cons (qe_var 1) qa_nil))) qa_nil)))))))) (qss_one (qs_ret (qe_add (qx (qe_var 2)) (qx (qe_frz (qf_lst (qa_cons (qe_exc0 T.xz_Contradiction T.g_Contradiction) (qa_cons (qe_exc0 T.xz_HasLoop T.g_HasLoop) (qa_cons (qe_exc0 T.xz_NoParting T.g_NoParting) (qa_cons (qe_exc0 T.xz_NothingDone T.g_NothingDone) qa_nil)))))))))))))
theorem fd_l_alike (T : Tx K w mg) (hs : SysB base) (ih : OkC P w K mg base k c) : FD P w K mg base (k + 2) "_law_alike" (g_l_alike c) :=
  fd_mk T.d_l_alike T.g_l_alike sc_l_alike bi_l_alike rfl rfl fun cdv A up s H E hr tk pw =>
    (qss_one (qs_ret (qe_and (qe_eqX (units80 hr.r) (qx (qe_var 0)) (qx (qe_var 1))) (qe_one (qe_eq hr.r (qx (qe_callB (call_repr hr hs) cas_repr T.f_repr (by decide +kernel) (qxs_cons (qx (qe_var 0)) qxs_nil))) (qx (qe_callB (call_repr hr hs) cas_repr T.f_repr (by decide +kernel) (qxs_cons (qx (qe_var 1)) qxs_nil))))))))
theorem fd_l_flags (T : Tx K w mg) (hs : SysB base) (ih : OkC P w K mg base k c) : FD P w K mg base (k + 2) "_law_flags" (g_l_flags c) :=
  fd_mk T.d_l_flags T.g_l_flags sc_l_flags bi_l_flags rfl rfl fun cdv A up s H E hr tk pw =>
    (qss_cons (qs_asg sc_l_flags.nd 1 (qe_frz (qf_lst (qa_cons (qe_callB call_isX1 (cas_isx T.xs_BadRow) T.f_isinstance (by decide +kernel) (qxs_cons (qx (qe_var 0)) (qxs_cons (qx (qe_glo T.g_BadRow)) qxs_nil))) (qa_cons (qe_callB call_isX1 (cas_isx T.xs_Unset) T.f_isinstance (by decide +kernel) (qxs_cons (qx (qe_var 0)) (qxs_cons (qx (qe_glo T.g_Unset)) qxs_nil))) (qa_cons (qe_callB call_isX1 (cas_isx T.xs_NoRow) T.f_isinstance (by decide +kernel) (qxs_cons (qx (qe_var 0)) (qxs_cons (qx (qe_glo T.g_NoRow)) qxs_nil))) (qa_cons (qe_callB call_isX1 (cas_isx T.xs_BadLine) T.f_isinstance (by decide +kernel) (qxs_cons (qx (qe_var 0)) (qxs_cons (qx (qe_glo T.g_BadLine)) qxs_nil))) qa_nil))))))) (qss_cons (qs_asg sc_l_flags.nd 1 (qe_add (qx (qe_var 1)) (qx (qe_frz (qf_lst (qa_cons (qe_callB call_isX1 (cas_isx T.xs_NoChoice) T.f_isinstance (by decide +kernel) (qxs_cons (qx (qe_var 0)) (qxs_cons (qx (qe_glo T.g_NoChoice)) qxs_nil))) (qa_cons (qe_callB call_isX1 (cas_isx T.xs_BadLookup) T.f_isinstance (by decide +kernel) (qxs_cons (qx (qe_var 0)) (qxs_cons (qx (qe_glo T.g_BadLookup)) qxs_nil))) (qa_cons (qe_callB call_isX1 (cas_isx T.xs_OneValue) T.f_isinstance (by decide +kernel) (qxs_cons (qx (qe_var 0)) (qxs_cons (qx (qe_glo T.g_OneValue)) qxs_nil))) qa_nil)))))))) (qss_cons (qs_asg sc_l_flags.nd 1 (qe_add (qx (qe_var 1)) (qx (qe_frz (qf_lst (qa_cons (qe_callB call_isX1 (cas_isx T.xs_NoLookup) T.f_isinstance (by decide +kernel) (qxs_cons (qx (qe_var 0)) (qxs_cons (qx (qe_glo T.g_NoLookup)) qxs_nil))) (qa_cons (qe_callB call_isX1 (cas_isx T.xs_QuietLoop) T.f_isinstance (by decide +kernel) (qxs_cons (qx (qe_var 0)) (qxs_cons (qx (qe_glo T.g_QuietLoop)) qxs_nil))) (qa_cons (qe_callB call_isX1 (cas_isx T.xs_NoFailing) T.f_isinstance (by decide +kernel) (qxs_cons (qx (qe_var 0)) (qxs_cons (qx (qe_glo T.g_NoFailing)) qxs_nil))) qa_nil)))))))) (qss_cons (qs_asg sc_l_flags.nd 1 (qe_add (qx (qe_var 1)) (qx (qe_frz (qf_lst (qa_cons (qe_callB call_isX1 (cas_isx T.xs_NoIndex) T.f_isinstance (by decide +kernel) (qxs_cons (qx (qe_var 0)) (qxs_cons (qx (qe_glo T.g_NoIndex)) qxs_nil))) (qa_cons (qe_callB call_isX1 (cas_isx T.xs_NoPair) T.f_isinstance (by decide +kernel) (qxs_cons (qx (qe_var 0)) (qxs_cons (qx (qe_glo T.g_NoPair)) qxs_nil))) (qa_cons (qe_callB call_isX1 (cas_isx T.xs_NotFoldable) T.f_isinstance (by decide +kernel) (qxs_cons (qx (qe_var 0)) (qxs_cons (qx (qe_glo T.g_NotFoldable)) qxs_nil))) qa_nil)))))))) (qss_cons (qs_asg sc_l_flags.nd 1 (qe_add (qx (qe_var 1)) (qx (qe_frz (qf_lst (qa_cons (qe_callB call_isX1 (cas_isx T.xs_NoSpelling) T.f_isinstance (by decide +kernel) (qxs_cons (qx (qe_var 0)) (qxs_cons (qx (qe_glo T.g_NoSpelling)) qxs_nil))) (qa_cons (qe_callB call_isX1 (cas_isx T.xs_BadName) T.f_isinstance (by decide +kernel) (qxs_cons (qx (qe_var 0)) (qxs_cons (qx (qe_glo T.g_BadName)) qxs_nil))) (qa_cons (qe_callB call_isX1 (cas_isx T.xs_NoName) T.f_isinstance (by decide +kernel) (qxs_cons (qx (qe_var 0)) (qxs_cons (qx (qe_glo T.g_NoName)) qxs_nil))) qa_nil)))))))) (qss_cons (qs_asg sc_l_flags.nd 1 (qe_add (qx (qe_var 1)) (qx (qe_frz (qf_lst (qa_cons (qe_callB call_isX1 (cas_isx T.xs_BadChoice) T.f_isinstance (by decide +kernel) (qxs_cons (qx (qe_var 0)) (qxs_cons (qx (qe_glo T.g_BadChoice)) qxs_nil))) (qa_cons (qe_callB call_isX1 (cas_isx T.xs_BadPower) T.f_isinstance (by decide +kernel) (qxs_cons (qx (qe_var 0)) (qxs_cons (qx (qe_glo T.g_BadPower)) qxs_nil))) (qa_cons (qe_callB call_isX1 (cas_isx T.xs_Contradiction) T.f_isinstance (by decide +kernel) (qxs_cons (qx (qe_var 0)) (qxs_cons (qx (qe_glo T.g_Contradiction)) qxs_nil))) qa_nil)))))))) (qss_one (qs_ret (qe_add (qx (qe_var 1)) (qx (qe_frz (qf_lst (qa_cons (qe_callB call_isX1 (cas_isx T.xs_HasLoop) T.f_isinstance (by decide +kernel) (qxs_cons (qx (qe_var 0)) (qxs_cons (qx (qe_glo T.g_HasLoop)) qxs_nil))) (qa_cons (qe_callB call_isX1 (cas_isx T.xs_NoParting) T.f_isinstance (by decide +kernel) (qxs_cons (qx (qe_var 0)) (qxs_cons (qx (qe_glo T.g_NoParting)) qxs_nil))) (qa_cons (qe_callB call_isX1 (cas_isx T.xs_NothingDone) T.f_isinstance (by decide +kernel) (qxs_cons (qx (qe_var 0)) (qxs_cons (qx (qe_glo T.g_NothingDone)) qxs_nil))) qa_nil)))))))))))))))
theorem fd_law (T : Tx K w mg) (hs : SysB base) (ih : OkC P w K mg base k c) : FD P w K mg base (k + 2) "law" (g_law c) :=
  fd_mk T.d_law T.g_law sc_law bi_law rfl rfl fun cdv A up s H E hr tk pw =>
    (qss_cons (qs_asg sc_law.nd 1 (qe_call (okf_l_bag ih) hr tk (qa_cons (qe_var 0) qa_nil))) (qss_cons (qs_for pw rfl (qi_range1 T.f_range (qa_cons qe_int qa_nil)) (qg_name sc_law.nd 2) (qss_cons (qs_par rfl sc_law.nd 3 4 (qa_cons (qe_call (okf_l_any ih) hr tk (qa_cons (qe_var 1) qa_nil)) (qa_cons (qe_call (okf_l_any ih) hr tk (qa_cons (qe_var 1) qa_nil)) qa_nil))) (qss_cons (qs_par rfl sc_law.nd 5 6 (qa_cons (qe_call (okf_l_errors ih) hr tk (qa_cons (qe_var 3) (qa_cons (qe_var 4) qa_nil))) (qa_cons (qe_add (qx (qe_rep (qx (qe_frz (qf_lst (qa_cons (qe_var 3) qa_nil)))) (qx qe_int))) (qx (qe_rep (qx (qe_frz (qf_lst (qa_cons (qe_var 4) qa_nil)))) (qx qe_int)))) qa_nil))) (qss_cons (qs_for pw rfl (qi_range1 T.f_range (qa_cons qe_int qa_nil)) (qg_name sc_law.nd 7) (qss_cons (qs_if (qt_ne hr.r (qx (qe_call (okf_l_flags ih) hr tk (qa_cons (qe_ix (qx (qe_var 5)) (qx (qe_var 7))) qa_nil))) (qx (qe_frz (qf_lc (own := [("_law_k", 10)]) rfl sc_law.nd (qi_range1 T.f_range (qa_cons qe_int qa_nil)) (blkOk_by (own := [("_law_k", 10)]) (N := ["_law_script", "_law_bag_here", "_law_turn", "_law_x", "_law_y", "_law_some", "_law_due", "_law_at", "_law_thing", "_law_great", "_law_k"]) (sc := defScope st_law) (by decide +kernel)) (fun _ _ _ _ _ => (qg_name sc_law.nd 10)) (fun _ _ _ _ _ => qts_nil) (fun _ _ _ _ _ => (qe_eq hr.r (qx (qe_var 10)) (qx (qe_var 7)))))))) (qss_one (qs_ret qe_bl)) qss_nil) (qss_one (qs_if (qt_w (qw_or (qt_not (qt_tru (qx (qe_callB call_isX1 (cas_isx T.xs_FoundError) T.f_isinstance (by decide +kernel) (qxs_cons (qx (qe_ix (qx (qe_var 5)) (qx (qe_var 7)))) (qxs_cons (qx (qe_glo T.g_FoundError)) qxs_nil)))))) (qw_or1 (qt_not (qt_tru (qx (qe_callB call_isX1 (cas_isx T.xs_ValueError) T.f_isinstance (by decide +kernel) (qxs_cons (qx (qe_ix (qx (qe_var 5)) (qx (qe_var 7)))) (qxs_cons (qx (qe_ty T.f_ValueError (by decide +kernel))) qxs_nil))))))))) (qss_one (qs_ret qe_bl)) qss_nil)))) (qss_cons (qs_if (qt_not (qt_tru (qx (qe_call (okf_l_alike ih) hr tk (qa_cons (qe_call (okf_l_fields ih) hr tk (qa_cons (qe_var 5) qa_nil)) (qa_cons (qe_var 6) qa_nil)))))) (qss_one (qs_ret qe_bl)) qss_nil) (qss_cons (qs_for pw rfl (qi_seq (qe_tup (qa_cons (qe_var 3) (qa_cons (qe_var 4) qa_nil)))) (qg_name sc_law.nd 8) (qss_cons (qs_if (qt_tru (qx (qe_callB call_isiA cas_isi T.f_isinstance (by decide +kernel) (qxs_cons (qx (qe_var 8)) (qxs_cons (qx (qe_ty T.f_list (by decide +kernel))) qxs_nil))))) (qss_one (qs_expr (qe_hdlM PySem.F.slot_list_append PySem.F.type_list_append mt_append owns_app (qe_var 8) (qa_cons qe_str qa_nil)))) qss_nil) (qss_one (qs_if (qt_tru (qx (qe_callB call_isiA cas_isi T.f_isinstance (by decide +kernel) (qxs_cons (qx (qe_var 8)) (qxs_cons (qx (qe_ty T.f_dict (by decide +kernel))) qxs_nil))))) (qss_one (qs_dputH hr.r (qe_var 8) qe_str qe_int)) qss_nil)))) (qss_one (qs_if (qt_not (qt_tru (qx (qe_call (okf_l_alike ih) hr tk (qa_cons (qe_call (okf_l_fields ih) hr tk (qa_cons (qe_var 5) qa_nil)) (qa_cons (qe_var 6) qa_nil)))))) (qss_one (qs_ret qe_bl)) qss_nil)))))))) (qss_cons (qs_asg sc_law.nd 9 (qe_pow (qx qe_int) (qx qe_int))) (qss_cons (qs_for pw rfl (qi_range1 T.f_range (qa_cons qe_int qa_nil)) (qg_name sc_law.nd 10) (qss_one (qs_asg sc_law.nd 9 (qe_mulX (qx (qe_var 9)) (qx (qe_var 9)))))) (qss_one (qs_ret (qe_eqX (units80 hr.r) (qx (qe_call (okf_l_fields ih) hr tk (qa_cons (qe_call (okf_l_errors ih) hr tk (qa_cons (qe_var 9) (qa_cons (qe_var 9) qa_nil))) qa_nil))) (qx (qe_rep (qx (qe_frz (qf_lst (qa_cons (qe_var 9) qa_nil)))) (qx qe_int))))))))))
end
section
variable {P : Program} {w : World} {K : PySem.W.Frag} {mg : Str → Option Value} {base : Heap}
theorem all_ok (T : Tx K w mg) (hs : SysB base) : ∀ n, OkC P w K mg base (2 * n) (calls n)
  | 0 => fun f => match f with
    | .BadRow_init => fx_no
    | .Unset_init => fx_no
    | .NoRow_init => fx_no
    | .BadLine_init => fx_no
    | .NoChoice_init => fx_no
    | .BadLookup_init => fx_no
    | .OneValue_init => fx_no
    | .NoLookup_init => fx_no
    | .QuietLoop_init => fx_no
    | .NoFailing_init => fx_no
    | .NoIndex_init => fx_no
    | .NoPair_init => fx_no
    | .NotFoldable_init => fx_no
    | .NoSpelling_init => fx_no
    | .BadName_init => fx_no
    | .NoName_init => fx_no
    | .BadChoice_init => fx_no
    | .BadPower_init => fx_no
    | .l_bag => fd_no T.d_l_bag T.g_l_bag bi_l_bag
    | .l_fields => fd_no T.d_l_fields T.g_l_fields bi_l_fields
    | .l_take => fd_no T.d_l_take T.g_l_take bi_l_take
    | .l_any => fd_no T.d_l_any T.g_l_any bi_l_any
    | .l_errors => fd_no T.d_l_errors T.g_l_errors bi_l_errors
    | .l_alike => fd_no T.d_l_alike T.g_l_alike bi_l_alike
    | .l_flags => fd_no T.d_l_flags T.g_l_flags bi_l_flags
    | .law => fd_no T.d_law T.g_law bi_law
  | n + 1 => fun f => match f with
    | .BadRow_init => fd_BadRow_init T hs (all_ok T hs n)
    | .Unset_init => fd_Unset_init T hs (all_ok T hs n)
    | .NoRow_init => fd_NoRow_init T hs (all_ok T hs n)
    | .BadLine_init => fd_BadLine_init T hs (all_ok T hs n)
    | .NoChoice_init => fd_NoChoice_init T hs (all_ok T hs n)
    | .BadLookup_init => fd_BadLookup_init T hs (all_ok T hs n)
    | .OneValue_init => fd_OneValue_init T hs (all_ok T hs n)
    | .NoLookup_init => fd_NoLookup_init T hs (all_ok T hs n)
    | .QuietLoop_init => fd_QuietLoop_init T hs (all_ok T hs n)
    | .NoFailing_init => fd_NoFailing_init T hs (all_ok T hs n)
    | .NoIndex_init => fd_NoIndex_init T hs (all_ok T hs n)
    | .NoPair_init => fd_NoPair_init T hs (all_ok T hs n)
    | .NotFoldable_init => fd_NotFoldable_init T hs (all_ok T hs n)
    | .NoSpelling_init => fd_NoSpelling_init T hs (all_ok T hs n)
    | .BadName_init => fd_BadName_init T hs (all_ok T hs n)
    | .NoName_init => fd_NoName_init T hs (all_ok T hs n)
    | .BadChoice_init => fd_BadChoice_init T hs (all_ok T hs n)
    | .BadPower_init => fd_BadPower_init T hs (all_ok T hs n)
    | .l_bag => fd_l_bag T hs (all_ok T hs n)
    | .l_fields => fd_l_fields T hs (all_ok T hs n)
    | .l_take => fd_l_take T hs (all_ok T hs n)
    | .l_any => fd_l_any T hs (all_ok T hs n)
    | .l_errors => fd_l_errors T hs (all_ok T hs n)
    | .l_alike => fd_l_alike T hs (all_ok T hs n)
    | .l_flags => fd_l_flags T hs (all_ok T hs n)
    | .law => fd_law T hs (all_ok T hs n)
theorem ok_law {fd : FuncData} (T : Tx K w mg) (hs : SysB base) (F : FunD K "law" "law" (defArgs st_law) (defBody st_law) (defScope st_law) [] [] (He.ga K "law") fd) : FnG P w K mg base (2 * (20 + 1)) (He.ga K "law") fd ["_law_script"] (spD K (calls (20 + 1) .law)) :=
  have ih : OkC P w K mg base (2 * 20) (calls 20) := all_ok T hs 20
  fn_mk (k := 2 * 20 + 1) (fb := fb_law (calls 20)) F sc_law fun cdv A up s H E hr tk pw =>
    (qss_cons (qs_asg sc_law.nd 1 (qe_call (okf_l_bag ih) hr tk (qa_cons (qe_var 0) qa_nil))) (qss_cons (qs_for pw rfl (qi_range1 T.f_range (qa_cons qe_int qa_nil)) (qg_name sc_law.nd 2) (qss_cons (qs_par rfl sc_law.nd 3 4 (qa_cons (qe_call (okf_l_any ih) hr tk (qa_cons (qe_var 1) qa_nil)) (qa_cons (qe_call (okf_l_any ih) hr tk (qa_cons (qe_var 1) qa_nil)) qa_nil))) (qss_cons (qs_par rfl sc_law.nd 5 6 (qa_cons (qe_call (okf_l_errors ih) hr tk (qa_cons (qe_var 3) (qa_cons (qe_var 4) qa_nil))) (qa_cons (qe_add (qx (qe_rep (qx (qe_frz (qf_lst (qa_cons (qe_var 3) qa_nil)))) (qx qe_int))) (qx (qe_rep (qx (qe_frz (qf_lst (qa_cons (qe_var 4) qa_nil)))) (qx qe_int)))) qa_nil))) (qss_cons (qs_for pw rfl (qi_range1 T.f_range (qa_cons qe_int qa_nil)) (qg_name sc_law.nd 7) (qss_cons (qs_if (qt_ne hr.r (qx (qe_call (okf_l_flags ih) hr tk (qa_cons (qe_ix (qx (qe_var 5)) (qx (qe_var 7))) qa_nil))) (qx (qe_frz (qf_lc (own := [("_law_k", 10)]) rfl sc_law.nd (qi_range1 T.f_range (qa_cons qe_int qa_nil)) (blkOk_by (own := [("_law_k", 10)]) (N := ["_law_script", "_law_bag_here", "_law_turn", "_law_x", "_law_y", "_law_some", "_law_due", "_law_at", "_law_thing", "_law_great", "_law_k"]) (sc := defScope st_law) (by decide +kernel)) (fun _ _ _ _ _ => (qg_name sc_law.nd 10)) (fun _ _ _ _ _ => qts_nil) (fun _ _ _ _ _ => (qe_eq hr.r (qx (qe_var 10)) (qx (qe_var 7)))))))) (qss_one (qs_ret qe_bl)) qss_nil) (qss_one (qs_if (qt_w (qw_or (qt_not (qt_tru (qx (qe_callB call_isX1 (cas_isx T.xs_FoundError) T.f_isinstance (by decide +kernel) (qxs_cons (qx (qe_ix (qx (qe_var 5)) (qx (qe_var 7)))) (qxs_cons (qx (qe_glo T.g_FoundError)) qxs_nil)))))) (qw_or1 (qt_not (qt_tru (qx (qe_callB call_isX1 (cas_isx T.xs_ValueError) T.f_isinstance (by decide +kernel) (qxs_cons (qx (qe_ix (qx (qe_var 5)) (qx (qe_var 7)))) (qxs_cons (qx (qe_ty T.f_ValueError (by decide +kernel))) qxs_nil))))))))) (qss_one (qs_ret qe_bl)) qss_nil)))) (qss_cons (qs_if (qt_not (qt_tru (qx (qe_call (okf_l_alike ih) hr tk (qa_cons (qe_call (okf_l_fields ih) hr tk (qa_cons (qe_var 5) qa_nil)) (qa_cons (qe_var 6) qa_nil)))))) (qss_one (qs_ret qe_bl)) qss_nil) (qss_cons (qs_for pw rfl (qi_seq (qe_tup (qa_cons (qe_var 3) (qa_cons (qe_var 4) qa_nil)))) (qg_name sc_law.nd 8) (qss_cons (qs_if (qt_tru (qx (qe_callB call_isiA cas_isi T.f_isinstance (by decide +kernel) (qxs_cons (qx (qe_var 8)) (qxs_cons (qx (qe_ty T.f_list (by decide +kernel))) qxs_nil))))) (qss_one (qs_expr (qe_hdlM PySem.F.slot_list_append PySem.F.type_list_append mt_append owns_app (qe_var 8) (qa_cons qe_str qa_nil)))) qss_nil) (qss_one (qs_if (qt_tru (qx (qe_callB call_isiA cas_isi T.f_isinstance (by decide +kernel) (qxs_cons (qx (qe_var 8)) (qxs_cons (qx (qe_ty T.f_dict (by decide +kernel))) qxs_nil))))) (qss_one (qs_dputH hr.r (qe_var 8) qe_str qe_int)) qss_nil)))) (qss_one (qs_if (qt_not (qt_tru (qx (qe_call (okf_l_alike ih) hr tk (qa_cons (qe_call (okf_l_fields ih) hr tk (qa_cons (qe_var 5) qa_nil)) (qa_cons (qe_var 6) qa_nil)))))) (qss_one (qs_ret qe_bl)) qss_nil)))))))) (qss_cons (qs_asg sc_law.nd 9 (qe_pow (qx qe_int) (qx qe_int))) (qss_cons (qs_for pw rfl (qi_range1 T.f_range (qa_cons qe_int qa_nil)) (qg_name sc_law.nd 10) (qss_one (qs_asg sc_law.nd 9 (qe_mulX (qx (qe_var 9)) (qx (qe_var 9)))))) (qss_one (qs_ret (qe_eqX (units80 hr.r) (qx (qe_call (okf_l_fields ih) hr tk (qa_cons (qe_call (okf_l_errors ih) hr tk (qa_cons (qe_var 9) (qa_cons (qe_var 9) qa_nil))) qa_nil))) (qx (qe_rep (qx (qe_frz (qf_lst (qa_cons (qe_var 9) qa_nil)))) (qx qe_int))))))))))
end
theorem tx_mk {K : PySem.W.Frag} {w : World} {h : Heap} {mg : Str → Option Value} (KX : K.In h) (G : h.Ns mainGlobals mg) (c : SaysN fa fn ts w K) : Tx K w mg :=
  ⟨He.free_ok KX G (c.fact 0 (f := .free "ValueError") rfl), He.free_ok KX G (c.fact 1 (f := .free "abs") rfl), He.free_ok KX G (c.fact 2 (f := .free "dict") rfl), He.free_ok KX G (c.fact 3 (f := .free "int") rfl), He.free_ok KX G (c.fact 4 (f := .free "isinstance") rfl), He.free_ok KX G (c.fact 5 (f := .free "len") rfl), He.free_ok KX G (c.fact 6 (f := .free "list") rfl), He.free_ok KX G (c.fact 7 (f := .free "range") rfl), He.free_ok KX G (c.fact 8 (f := .free "repr") rfl), He.glo_ok KX G (c.fact 9 (f := .glo "_law_bag") rfl), He.glo_ok KX G (c.fact 10 (f := .glo "_law_fields") rfl), He.glo_ok KX G (c.fact 11 (f := .glo "_law_take") rfl), He.glo_ok KX G (c.fact 12 (f := .glo "_law_any") rfl), He.glo_ok KX G (c.fact 13 (f := .glo "_law_errors") rfl), He.glo_ok KX G (c.fact 14 (f := .glo "_law_alike") rfl), He.glo_ok KX G (c.fact 15 (f := .glo "_law_flags") rfl), He.glo_ok KX G (c.fact 16 (f := .glo "law") rfl), He.glo_ok KX G (c.fact 17 (f := .glo "BadChoice") rfl), He.glo_ok KX G (c.fact 18 (f := .glo "BadLine") rfl), He.glo_ok KX G (c.fact 19 (f := .glo "BadLookup") rfl), He.glo_ok KX G (c.fact 20 (f := .glo "BadName") rfl), He.glo_ok KX G (c.fact 21 (f := .glo "BadPower") rfl), He.glo_ok KX G (c.fact 22 (f := .glo "BadRow") rfl), He.glo_ok KX G (c.fact 23 (f := .glo "Contradiction") rfl), He.glo_ok KX G (c.fact 24 (f := .glo "FoundError") rfl), He.glo_ok KX G (c.fact 25 (f := .glo "HasLoop") rfl), He.glo_ok KX G (c.fact 26 (f := .glo "NoChoice") rfl), He.glo_ok KX G (c.fact 27 (f := .glo "NoFailing") rfl), He.glo_ok KX G (c.fact 28 (f := .glo "NoIndex") rfl), He.glo_ok KX G (c.fact 29 (f := .glo "NoLookup") rfl), He.glo_ok KX G (c.fact 30 (f := .glo "NoName") rfl), He.glo_ok KX G (c.fact 31 (f := .glo "NoPair") rfl), He.glo_ok KX G (c.fact 32 (f := .glo "NoParting") rfl), He.glo_ok KX G (c.fact 33 (f := .glo "NoRow") rfl), He.glo_ok KX G (c.fact 34 (f := .glo "NoSpelling") rfl), He.glo_ok KX G (c.fact 35 (f := .glo "NotFoldable") rfl), He.glo_ok KX G (c.fact 36 (f := .glo "NothingDone") rfl), He.glo_ok KX G (c.fact 37 (f := .glo "OneValue") rfl), He.glo_ok KX G (c.fact 38 (f := .glo "QuietLoop") rfl), He.glo_ok KX G (c.fact 39 (f := .glo "Unset") rfl), fe_f (c.fact 40 (f := feB "FoundError") rfl), xc_f (c.fact 41 (f := xcB "BadRow" ["path"]) rfl), xc_f (c.fact 42 (f := xcB "Unset" ["name"]) rfl), xc_f (c.fact 43 (f := xcB "NoRow" ["index"]) rfl), xc_f (c.fact 44 (f := xcB "BadLine" ["line"]) rfl), xc_f (c.fact 45 (f := xcB "NoChoice" ["choice"]) rfl), xc_f (c.fact 46 (f := xcB "BadLookup" ["lookup"]) rfl), xc_f (c.fact 47 (f := xcB "OneValue" ["value"]) rfl), xc_f (c.fact 48 (f := xcB "NoLookup" ["lookup"]) rfl), xc_f (c.fact 49 (f := xcB "QuietLoop" ["sign"]) rfl), xc_f (c.fact 50 (f := xcB "NoFailing" ["index"]) rfl), xc_f (c.fact 51 (f := xcB "NoIndex" ["index"]) rfl), xc_f (c.fact 52 (f := xcB "NoPair" ["pair"]) rfl), xc_f (c.fact 53 (f := xcB "NotFoldable" ["name"]) rfl), xc_f (c.fact 54 (f := xcB "NoSpelling" ["word"]) rfl), xc_f (c.fact 55 (f := xcB "BadName" ["name"]) rfl), xc_f (c.fact 56 (f := xcB "NoName" ["name"]) rfl), xc_f (c.fact 57 (f := xcB "BadChoice" ["choice", "value"]) rfl), xc_f (c.fact 58 (f := xcB "BadPower" ["sign", "power"]) rfl), xt_f (c.fact 59 (f := xtB xtab) rfl), xz_f (c.fact 60 (f := xzB "Contradiction") rfl), xz_f (c.fact 61 (f := xzB "HasLoop") rfl), xz_f (c.fact 62 (f := xzB "NoParting") rfl), xz_f (c.fact 63 (f := xzB "NothingDone") rfl), isx_f (c.fact 64 (f := isxB (.glo "BadChoice") xs_BadChoice) rfl), isx_f (c.fact 65 (f := isxB (.glo "BadLine") xs_BadLine) rfl), isx_f (c.fact 66 (f := isxB (.glo "BadLookup") xs_BadLookup) rfl), isx_f (c.fact 67 (f := isxB (.glo "BadName") xs_BadName) rfl), isx_f (c.fact 68 (f := isxB (.glo "BadPower") xs_BadPower) rfl), isx_f (c.fact 69 (f := isxB (.glo "BadRow") xs_BadRow) rfl), isx_f (c.fact 70 (f := isxB (.glo "Contradiction") xs_Contradiction) rfl), isx_f (c.fact 71 (f := isxB (.glo "FoundError") xs_FoundError) rfl), isx_f (c.fact 72 (f := isxB (.glo "HasLoop") xs_HasLoop) rfl), isx_f (c.fact 73 (f := isxB (.glo "NoChoice") xs_NoChoice) rfl), isx_f (c.fact 74 (f := isxB (.glo "NoFailing") xs_NoFailing) rfl), isx_f (c.fact 75 (f := isxB (.glo "NoIndex") xs_NoIndex) rfl), isx_f (c.fact 76 (f := isxB (.glo "NoLookup") xs_NoLookup) rfl), isx_f (c.fact 77 (f := isxB (.glo "NoName") xs_NoName) rfl), isx_f (c.fact 78 (f := isxB (.glo "NoPair") xs_NoPair) rfl), isx_f (c.fact 79 (f := isxB (.glo "NoParting") xs_NoParting) rfl), isx_f (c.fact 80 (f := isxB (.glo "NoRow") xs_NoRow) rfl), isx_f (c.fact 81 (f := isxB (.glo "NoSpelling") xs_NoSpelling) rfl), isx_f (c.fact 82 (f := isxB (.glo "NotFoldable") xs_NotFoldable) rfl), isx_f (c.fact 83 (f := isxB (.glo "NothingDone") xs_NothingDone) rfl), isx_f (c.fact 84 (f := isxB (.glo "OneValue") xs_OneValue) rfl), isx_f (c.fact 85 (f := isxB (.glo "QuietLoop") xs_QuietLoop) rfl), isx_f (c.fact 86 (f := isxB (.glo "Unset") xs_Unset) rfl), isx_f (c.fact 87 (f := isxB (.ty "ValueError") xs_ValueError) rfl), c.def_ 0 (d := dd_BadRow_init) rfl, c.def_ 1 (d := dd_Unset_init) rfl, c.def_ 2 (d := dd_NoRow_init) rfl, c.def_ 3 (d := dd_BadLine_init) rfl, c.def_ 4 (d := dd_NoChoice_init) rfl, c.def_ 5 (d := dd_BadLookup_init) rfl, c.def_ 6 (d := dd_OneValue_init) rfl, c.def_ 7 (d := dd_NoLookup_init) rfl, c.def_ 8 (d := dd_QuietLoop_init) rfl, c.def_ 9 (d := dd_NoFailing_init) rfl, c.def_ 10 (d := dd_NoIndex_init) rfl, c.def_ 11 (d := dd_NoPair_init) rfl, c.def_ 12 (d := dd_NotFoldable_init) rfl, c.def_ 13 (d := dd_NoSpelling_init) rfl, c.def_ 14 (d := dd_BadName_init) rfl, c.def_ 15 (d := dd_NoName_init) rfl, c.def_ 16 (d := dd_BadChoice_init) rfl, c.def_ 17 (d := dd_BadPower_init) rfl, c.def_ 18 (d := dd_l_bag) rfl, c.def_ 19 (d := dd_l_fields) rfl, c.def_ 20 (d := dd_l_take) rfl, c.def_ 21 (d := dd_l_any) rfl, c.def_ 22 (d := dd_l_errors) rfl, c.def_ 23 (d := dd_l_alike) rfl, c.def_ 24 (d := dd_l_flags) rfl, c.def_ 25 (d := dd_law) rfl⟩
end Row
open PySem PySem.W PySem.Calls PyProof.Rows
theorem PySem.Challenge.cw_foundtwice_k11_errors_apart_holds : PySem.Challenge.rw_foundtwice_k11_errors_apart.Holds := by
  w_on; o_law
  refine HandSHeadRun.head_any (r := OpenLaw.row PySem.Challenge.rw_foundtwice_k11_errors_apart) (q := view (OpenLaw.row PySem.Challenge.rw_foundtwice_k11_errors_apart).prog [32]) (H := Row.hk) (ob := Row.ob) (M := 20000) (loose := Row.loose) (d := HandSHeadRun.topDef (OpenLaw.row PySem.Challenge.rw_foundtwice_k11_errors_apart).prog 32) (kwd := []) Row.ob_eq
    (by kernel_rfl) (fun s => by kernel_rfl) Row.run (by kernel_rfl) (by kernel_rfl) (by kernel_rfl) (by rfl) (by first | assumption | decide +kernel) (by decide +kernel) ⟨rfl, rfl, rfl, rfl, rfl, by decide +kernel⟩ ?hw ?hc
  case hw => w_witness2
  case hc =>
    refine DL.walk_g (l := PySem.Challenge.rw_foundtwice_k11_errors_apart) (n := 63) (k := 2 * (20 + 1)) (x := "_law_script") rfl (by decide) (by kernel_rfl) (by kernel_rfl) ⟨⟨rfl, by decide, by decide⟩, rfl⟩ ?F
    intro w mg fa h Y G hmg0
    obtain ⟨K, KX, c⟩ := Y
    have hmg : mg ("law" : PySem.Str) = some (.ref fa) := by
      have e : (HandSHeadRun.topDef (OpenLaw.row PySem.Challenge.rw_foundtwice_k11_errors_apart).prog 32).name = ("law" : PySem.Str) := by kernel_rfl
      rw [← e]
      exact hmg0
    have T := Row.tx_mk KX G c
    have e := hmg.symm.trans T.g_law
    cases e
    obtain ⟨fd, F⟩ := T.d_law
    have b := L2.FunD.bindsA (ps := ["_law_script"]) F fun _ _ _ _ _ _ us hl => match us, hl with | [_], _ => rfl
    exact ⟨K, fd, DL.spD K (DL.calls (20 + 1) .law), KX, fun s v => b s [v] rfl, fun H a ns hl hS => DL.law_end DL.law_true H a ns hl hS, fun base _ _ hs => Row.ok_law T hs F⟩
