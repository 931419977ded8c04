import PyProof.Rows.All
import Wide.All
import OpenK.AllK
import Wide.FinOn
import HandS.ForMost
import HandS.Exc
import HandS.Defaults
import HandS.IsInst
import HandS.Flow
import HandS.Wide
import HandS.Codes
import HandS.TupAny
import HandS.Style
import HandS.CallSlots
import HandS.HeadHook1
import HandS.HeadHook2
import HandS.ExcInit
import HandS.Lambda
import KE.KeyNested
import HandS.Head0
import HandS.Head1
import HandS.Head2
import HandS.HeadEnd
import HandS.More
import HandS.MakeKwOnly
import HandS.Property
import HandS.ClsMeth
import HandS.HeadHook3
import HandS.Strs
import KE.KRevSl
import HandS.HeadNt
import KE.GoesZip
import KE.GoesMore
import KE.GoesEnum
import HandS.Sort
import HandS.RaiseMore
import HandS.Set
import HandS.SetFor
import PyProof.Rows.SortShellAny
import PyProof.Rows.StrMeet
import PyProof.P3Eq
import HandS.OwnEq
import HandS.ExcField
import KE.KExcIs
import HandS.ExcIs
import KE.KCallOwn
import HandS.Conv
import HandS.DictComp
import KE.KOpsOwn
import HandS.TryOnly
import HandS.ListItems
import HandS.DeepEq
import KE.KSortKeySt
import HandS.SortKw
import HandS.FStr
import HandS.Text
import HandS.TryElse
import PyProof.StrBlock2
import HandS.WideBits
import HandS.ExcValue
import KE.KNestM
import PyProof.DictMoreH
import HandS.SetKeys
import HandS.WordsDict
import HandS.TupLen
import KE.KDictWalk
import KE.KDictZip
import KE.DataCmp
import KE.KStateDown
import Lean
import PySem.Challenge.RW_foundtwice_k38_records_told
set_option Elab.async false
set_option linter.all false
set_option maxRecDepth 100000
set_option maxHeartbeats 0
namespace DL
open PySem L2
/-- what is known: the objects of the top, and the world -/
structure Kw where
  K : PySem.W.Frag
  w : World
instance : Coe Kw PySem.W.Frag := ⟨Kw.K⟩
abbrev _root_.L2.Cx.kw (X : Cx) : Kw := ⟨X.K, X.w⟩
abbrev Kw.lookup (K : Kw) (a : Addr) := K.K.lookup a
abbrev Kw.In (K : Kw) (h : Heap) : Prop := K.K.In h
inductive Dv where
  | non | bl (b : Bool) | int (i : Int) | str (x : Str) | tup (l : List Dv) | lst (l : List Dv) | rol (l : List Dv) | dic (l : List (Key × Dv)) | obj (c : Str) (fs : List (Str × Dv)) | hdl (k : Nat) | glo (x : Str) | ty (n : String) | ext (t : Nat) (c : Str) (ns : List Str) (l : List Dv)
inductive Ob where
  | lst (l : List Dv) | dct (l : List (Key × Dv)) | ins (c : Str) (fs : List (Str × Dv)) | ext (t : Nat) (c : Str) (l : List Dv) | dcn (l : List (Dv × Dv))
abbrev Sto := List Ob
inductive Sl where
  | no | va (d : Dv) | own (o : Ob)
abbrev Sl.ow (l : List Dv) : Sl := .own (.lst l)
abbrev Sl.od (l : List (Key × Dv)) : Sl := .own (.dct l)
abbrev Sl.oi (c : Str) (fs : List (Str × Dv)) : Sl := .own (.ins c fs)
abbrev Env := List Sl
/-- a tuple of the top -/
def TK (K : Kw) (a : Addr) (xs : List V) : Prop := (∀ H', SqT K H' a xs) ∧ ∃ o, K.lookup a = some o ∧ o.cls = .type "tuple" ∧ o.dict = none
mutual
/-- data as a key -/
def nk : Dv → Option NestedKey
  | .non => some .none
  | .int i => some (.num i)
  | .str x => some (.text x)
  | .tup l => (nks l).map .tup
  | _ => none
def nks : List Dv → Option (List NestedKey)
  | [] => some []
  | d :: l => (nk d).bind fun k => (nks l).map fun ks => k :: ks
end
def nkT (d : Dv) : Option NestedKey := match d with
  | .tup l => (nk (.tup l)).bind fun k => if k.depth ≤ 8 then some k else none
  | _ => none
/-- a dict with such keys -/
def dnO (w : World) (a : Addr) (es : List (NestedKey × Addr × V)) : HO := .ext fun h => (a == sysModules) = false ∧ es.length ≤ sizeLine ∧ (es.map (·.1)).Nodup ∧
  ∃ xs : List (NestedKey × Addr × Value), Paired (fun p x => x.1 = p.1 ∧ x.2.1 = p.2.1 ∧ RelV p.2.2 x.2.2) es xs ∧
  ∃ (o : Obj) (es' : Array DictEntry) (ep : Nat), h.get? a = some o ∧ o.ExactDict ∧ o.data = .dict es' ep ∧ es'.toList = xs.map fun x => ⟨x.1.hash w, .ref x.2.1, x.2.2⟩
/-- a dict's entries in one row -/
def flV : List (NestedKey × Addr × V) → List V
  | [] => []
  | p :: es => .ref p.2.1 :: p.2.2 :: flV es
def flD : List (Dv × Dv) → List Dv
  | [] => []
  | p :: l => p.1 :: p.2 :: flD l
def flK : List Dv → List (Option NestedKey)
  | k :: _ :: l => nkT k :: flK l
  | _ => []
/-- other things: an exception held as a value (1; 2: without fields), a code object (3) -/
inductive KindE (K : Kw) : Nat → Str → List Str → Addr → List V → List Dv → List (Addr × HO) → Prop
  | exc {a dx : Addr} {c : Str} {ns : List Str} {vs : List V} {ds : List Dv} : vs.length = ns.length → KindE K 1 c ns a vs ds [(a, exo a (He.ga K c) (some dx)), (dx, exd dx (ns.zip vs).reverse)]
  | exc0 {a : Addr} {c : Str} {ds : List Dv} : KindE K 2 c [] a [] ds [(a, exo a (He.ga K c) none)]
  | cod {a : Addr} {c : Str} {ds : List Dv} : KindE K 3 c [] a [] ds [(a, LamX.CodeO a c)]
  /-- the very address; with what stands there -/
  | pin {a : Addr} {t : Nat} {ds : List Dv} : t = 100 + a → KindE K t "" [] a [] ds []
  | pnd {a : Addr} {t : Nat} {ds : List Dv} : t = 100 + a → KindE K t "p" [] a [.ref a] ds []
  /-- a dict with data as keys that stays: 4 as it is, 6 locked -/
  | ndu {a : Addr} {es : List (NestedKey × Addr × V)} {vs : List V} {ds : List Dv} : vs = flV es → flK ds = es.map (fun p => some p.1) → KindE K 4 "" [] a vs ds [(a, dnO K.w a es)]
  | ndf {a : Addr} {od : Obj} {es : List (NestedKey × Addr × V)} {vs : List V} {ds : List Dv} : vs = flV es → flK ds = es.map (fun p => some p.1) → KindE K 6 "" [] a vs ds [(a, .frz od (dnO K.w a es))]
theorem KindE.nodk {K : Kw} {t : Nat} {c : Str} {ns : List Str} {a : Addr} {vs : List V} {ds : List Dv} {os : List (Addr × HO)} (h : KindE K t c ns a vs ds os) : ∀ p ∈ os, ∀ kvs, p.2 ≠ .dK kvs := by
  intro p hp kvs
  cases h with
  | exc _ =>
    rcases List.mem_cons.mp hp with rfl | hp
    · unfold exo; exact fun z => nomatch z
    · cases List.mem_singleton.mp hp; unfold exd; exact fun z => nomatch z
  | exc0 => cases List.mem_singleton.mp hp; unfold exo; exact fun z => nomatch z
  | cod => cases List.mem_singleton.mp hp; unfold LamX.CodeO; exact fun z => nomatch z
  | pin _ => cases hp
  | pnd _ => cases hp
  | ndu _ _ => cases List.mem_singleton.mp hp; unfold dnO; exact fun z => nomatch z
  | ndf _ _ => cases List.mem_singleton.mp hp; exact fun z => nomatch z
/-- the name of a lambda within the def x -/
def lamQ (x : Str) : Str := x ++ ".<locals>." ++ "<lambda>"
/-- the code object of the module's def x, and its table of code objects -/
def codA (K : PySem.W.Frag) (x : Str) : Addr := match K.lookup (He.ga K x) with
  | some ⟨_, _, .func fd, _⟩ => (match fd.code with
    | .ref c => c
    | _ => 0)
  | _ => 0
def tabA (K : PySem.W.Frag) (x : Str) : Addr := match K.lookup (codA K x) with
  | some ⟨_, _, .fields vs, _⟩ => (match (vs[11]? : Option Value) with
    | some (.ref P) => P
    | _ => 0)
  | _ => 0
section
variable (K : Kw) (L : Addr → Prop) (io : List Addr) (H : Hp)
mutual
inductive VR : V → Dv → Prop
  | non : VR .non .non
  | bl (b : Bool) : VR (.bl b) (.bl b)
  | int (i : Int) : VR (.int i) (.int i)
  | str (x : Str) : VR (.str x) (.str x)
  | tup {a : Addr} {xs : List V} {ds : List Dv} : ¬ L a → H a = some (.tup xs) → VRs xs ds → VR (.ref a) (.tup ds)
  | tupK {a : Addr} {xs : List V} {ds : List Dv} : TK K a xs → VRs xs ds → VR (.ref a) (.tup ds)
  | lst {a : Addr} {xs : List V} {ds : List Dv} : ¬ L a → H a = some (.lst xs) → VRs xs ds → VR (.ref a) (.lst ds)
  | rol {a : Addr} {xs : List V} {ds : List Dv} : ¬ L a → Rd H a (.lst xs) → VRs xs ds → VR (.ref a) (.rol ds)
  | rolK {a : Addr} {xs : List V} {ds : List Dv} : (∀ H', SqL K H' a xs) → VRs xs ds → VR (.ref a) (.rol ds)
  | dic {a : Addr} {kvs : List (Key × V)} {l : List (Key × Dv)} : ¬ L a → Rd H a (.dK kvs) → VRp kvs l → VR (.ref a) (.dic l)
  | obj {a dx : Addr} {c : Str} {vs : List (Str × V)} {fs : List (Str × Dv)} : ¬ L a → H a = some (.ins (He.ga K c) dx vs) → VRf vs fs → VR (.ref a) (.obj c fs)
  | hdl {a : Addr} {k : Nat} : io[k]? = some a → VR (.ref a) (.hdl k)
  | glo (x : Str) : VR (.ref (He.ga K x)) (.glo x)
  | ty (n : String) : VR (.ty n) (.ty n)
  | ext {a : Addr} {t : Nat} {c : Str} {ns : List Str} {vs : List V} {ds : List Dv} {os : List (Addr × HO)} : t ≠ 0 → KindE K t c ns a vs ds os → (∀ p ∈ os, ¬ L p.1 ∧ H p.1 = some p.2) → VRs vs ds → VR (.ref a) (.ext t c ns ds)
inductive VRs : List V → List Dv → Prop
  | nil : VRs [] []
  | cons {v : V} {vs : List V} {d : Dv} {ds : List Dv} : VR v d → VRs vs ds → VRs (v :: vs) (d :: ds)
inductive VRp : List (Key × V) → List (Key × Dv) → Prop
  | nil : VRp [] []
  | cons {k : Key} {v : V} {vs : List (Key × V)} {d : Dv} {ds : List (Key × Dv)} : VR v d → VRp vs ds → VRp ((k, v) :: vs) ((k, d) :: ds)
inductive VRf : List (Str × V) → List (Str × Dv) → Prop
  | nil : VRf [] []
  | cons {k : Str} {v : V} {vs : List (Str × V)} {d : Dv} {ds : List (Str × Dv)} : VR v d → VRf vs ds → VRf ((k, v) :: vs) ((k, d) :: ds)
end
end
/-- from one state to a later one: handles are added, what is new is fresh, what is no handle's stands -/
structure Stp (L : Addr → Prop) (io : List Addr) (H : Hp) (L' : Addr → Prop) (io' : List Addr) (H' : Hp) : Prop where
  pre : ∃ more, io' = io ++ more
  hn : ∀ x ∈ io', x ∈ io ∨ H x = none
  new : ∀ a, L' a → L a ∨ H a = none
  keep : ∀ a o, H a = some o → a ∉ io → H' a = some o
  up : ∀ a, L a → L' a
theorem Stp.refl (L : Addr → Prop) (io : List Addr) (H : Hp) : Stp L io H L io H := ⟨⟨[], by simp⟩, fun _ h => .inl h, fun _ h => .inl h, fun _ _ h _ => h, fun _ h => h⟩
theorem Stp.back {L L1 : Addr → Prop} {io io1 : List Addr} {H H1 : Hp} (a : Stp L io H L1 io1 H1) {x : Addr} (h : H1 x = none) : x ∈ io ∨ H x = none := by
  cases e : H x with
  | none => exact .inr rfl
  | some o =>
    by_cases hx : x ∈ io
    · exact .inl hx
    · rw [a.keep x o e hx] at h
      cases h
theorem Stp.trans {L L1 L2 : Addr → Prop} {io io1 io2 : List Addr} {H H1 H2 : Hp} (a : Stp L io H L1 io1 H1) (b : Stp L1 io1 H1 L2 io2 H2) (sub : ∀ x ∈ io, L x) : Stp L io H L2 io2 H2 where
  pre := by
    obtain ⟨m, rfl⟩ := a.pre
    obtain ⟨m1, rfl⟩ := b.pre
    exact ⟨m ++ m1, by simp⟩
  hn := fun x h => by
    rcases b.hn x h with h1 | h1
    · exact a.hn x h1
    · exact a.back h1
  new := fun x h => by
    rcases b.new x h with h1 | h1
    · exact a.new x h1
    · rcases a.back h1 with z | z
      · exact .inl (sub x z)
      · exact .inr z
  keep := fun x o h hn => by
    refine b.keep x o (a.keep x o h hn) fun hx => ?_
    rcases a.hn x hx with z | z
    · exact hn z
    · rw [z] at h; cases h
  up := fun x h => b.up x (a.up x h)
theorem rd_keep {H H' : Hp} {a : Addr} {u : HO} (r : Rd H a u) (k : ∀ o, H a = some o → H' a = some o) : Rd H' a u := by
  rcases r with r | ⟨o, r⟩
  · exact .inl (k _ r)
  · exact .inr ⟨o, k _ r⟩
theorem rd_some {H : Hp} {a : Addr} {u : HO} (r : Rd H a u) : ∃ o, H a = some o := by
  rcases r with r | ⟨o, r⟩
  · exact ⟨_, r⟩
  · exact ⟨_, r⟩
theorem io_keep {io more : List Addr} {k : Nat} {a : Addr} (h : io[k]? = some a) : (io ++ more)[k]? = some a := by
  have := (List.getElem?_eq_some_iff.mp h).1
  rw [List.getElem?_append_left this]
  exact h
section
variable {K : Kw} {L L' : Addr → Prop} {io io' : List Addr} {H H' : Hp}
/-- the general way on: handles stay, what is not volatile stands and stays not volatile -/
theorem VR.on (hp : ∀ (k : Nat) (a : Addr), io[k]? = some a → io'[k]? = some a) (hl : ∀ a o, H a = some o → ¬ L a → H' a = some o ∧ ¬ L' a) :
    ∀ {v : V} {d : Dv}, VR K L io H v d → VR K L' io' H' v d := by
  intro v d h
  refine VR.rec (motive_1 := fun v d _ => VR K L' io' H' v d) (motive_2 := fun vs ds _ => VRs K L' io' H' vs ds) (motive_3 := fun vs ds _ => VRp K L' io' H' vs ds) (motive_4 := fun vs ds _ => VRf K L' io' H' vs ds) ?_ ?_ ?_ ?_ ?_ ?_ ?_ ?_ ?_ ?_ ?_ ?_ ?_ ?_ ?_ ?_ ?_ ?_ ?_ ?_ ?_ h
  · exact .non
  · exact fun b => .bl b
  · exact fun i => .int i
  · exact fun x => .str x
  · intro a xs ds nl e _ ih
    exact .tup (hl a _ e nl).2 (hl a _ e nl).1 ih
  · exact fun h _ ih => .tupK h ih
  · intro a xs ds nl e _ ih
    exact .lst (hl a _ e nl).2 (hl a _ e nl).1 ih
  · intro a xs ds nl r _ ih
    obtain ⟨o, e⟩ := rd_some r
    exact .rol (hl a o e nl).2 (rd_keep r fun o e => (hl a o e nl).1) ih
  · exact fun h _ ih => .rolK h ih
  · intro a xs ds nl r _ ih
    obtain ⟨o, e⟩ := rd_some r
    exact .dic (hl a o e nl).2 (rd_keep r fun o e => (hl a o e nl).1) ih
  · intro a dx c vs fs nl e _ ih
    exact .obj (hl a _ e nl).2 (hl a _ e nl).1 ih
  · exact fun h => .hdl (hp _ _ h)
  · exact fun x => .glo x
  · exact fun n => .ty n
  · intro a t c ns vs ds os h0 hk ho _ ih
    exact .ext h0 hk (fun p hp => ⟨(hl _ _ (ho p hp).2 (ho p hp).1).2, (hl _ _ (ho p hp).2 (ho p hp).1).1⟩) ih
  · exact .nil
  · exact fun _ _ h1 h2 => .cons h1 h2
  · exact .nil
  · exact fun _ _ h1 h2 => .cons h1 h2
  · exact .nil
  · exact fun _ _ h1 h2 => .cons h1 h2
theorem VRs.on (hp : ∀ (k : Nat) (a : Addr), io[k]? = some a → io'[k]? = some a) (hl : ∀ a o, H a = some o → ¬ L a → H' a = some o ∧ ¬ L' a) :
    ∀ {vs : List V} {ds : List Dv}, VRs K L io H vs ds → VRs K L' io' H' vs ds
  | _, _, .nil => .nil
  | _, _, .cons h t => .cons (VR.on hp hl h) (VRs.on hp hl t)
theorem Stp.on (s : Stp L io H L' io' H') (sub : ∀ x ∈ io, L x) : (∀ (k : Nat) (a : Addr), io[k]? = some a → io'[k]? = some a) ∧ (∀ a o, H a = some o → ¬ L a → H' a = some o ∧ ¬ L' a) := by
  refine ⟨fun k a h => ?_, fun a o h nl => ⟨s.keep a o h fun z => nl (sub a z), fun z => ?_⟩⟩
  · obtain ⟨m, rfl⟩ := s.pre
    exact io_keep h
  · rcases s.new a z with q | q
    · exact nl q
    · rw [q] at h; cases h
theorem VR.step {v : V} {d : Dv} (h : VR K L io H v d) (s : Stp L io H L' io' H') (sub : ∀ x ∈ io, L x) : VR K L' io' H' v d := VR.on (s.on sub).1 (s.on sub).2 h
theorem VRs.step {v : List V} {d : List Dv} (h : VRs K L io H v d) (s : Stp L io H L' io' H') (sub : ∀ x ∈ io, L x) : VRs K L' io' H' v d := VRs.on (s.on sub).1 (s.on sub).2 h
theorem VR.less {v : V} {d : Dv} (h : VR K L io H v d) (hl : ∀ a, L' a → L a) : VR K L' io H v d := VR.on (fun _ _ h => h) (fun a o e n => ⟨e, fun z => n (hl a z)⟩) h
theorem VRs.less {v : List V} {d : List Dv} (h : VRs K L io H v d) (hl : ∀ a, L' a → L a) : VRs K L' io H v d := VRs.on (fun _ _ h => h) (fun a o e n => ⟨e, fun z => n (hl a z)⟩) h
/-- a volatile thing is changed -/
theorem VR.mut {v : V} {d : Dv} {p : Addr} {o : HO} (h : VR K L io H v d) (hp : L p) : VR K L io (upd H p o) v d :=
  VR.on (fun _ _ h => h) (fun a u e n => ⟨by rw [upd_ne (fun z => n (by rw [z]; exact hp))]; exact e, n⟩) h
theorem VRs.mut {v : List V} {d : List Dv} {p : Addr} {o : HO} (h : VRs K L io H v d) (hp : L p) : VRs K L io (upd H p o) v d :=
  VRs.on (fun _ _ h => h) (fun a u e n => ⟨by rw [upd_ne (fun z => n (by rw [z]; exact hp))]; exact e, n⟩) h
theorem VRs.mono (m : ∀ v d, VR K L io H v d → VR K L' io' H' v d) : ∀ {vs : List V} {ds : List Dv}, VRs K L io H vs ds → VRs K L' io' H' vs ds
  | _, _, .nil => .nil
  | _, _, .cons h t => .cons (m _ _ h) (VRs.mono m t)
theorem VRs.len : ∀ {vs : List V} {ds : List Dv}, VRs K L io H vs ds → vs.length = ds.length
  | _, _, .nil => rfl
  | _, _, .cons _ t => by rw [List.length_cons, List.length_cons, VRs.len t]
theorem VRs.get : ∀ {vs : List V} {ds : List Dv} {i : Nat} {d : Dv}, VRs K L io H vs ds → ds[i]? = some d → ∃ v, vs[i]? = some v ∧ VR K L io H v d
  | _, _, _, _, .nil, e => by simp at e
  | _, _, 0, _, .cons h _, e => by simp at e; subst e; exact ⟨_, rfl, h⟩
  | _, _, i + 1, _, .cons _ t, e => by
    obtain ⟨v, h1, h2⟩ := VRs.get (i := i) t (by simpa using e)
    exact ⟨v, by simpa using h1, h2⟩
theorem VRs.app : ∀ {vs ws : List V} {ds es : List Dv}, VRs K L io H vs ds → VRs K L io H ws es → VRs K L io H (vs ++ ws) (ds ++ es)
  | _, _, _, _, .nil, h => h
  | _, _, _, _, .cons h t, h2 => .cons h (VRs.app t h2)
theorem VRs.set {v : V} {d : Dv} (h : VR K L io H v d) : ∀ {vs : List V} {ds : List Dv} (i : Nat), VRs K L io H vs ds → VRs K L io H (vs.set i v) (ds.set i d)
  | _, _, _, .nil => .nil
  | _, _, 0, .cons _ t => .cons h t
  | _, _, i + 1, .cons q t => .cons q (VRs.set h i t)
theorem VRs.take : ∀ {vs : List V} {ds : List Dv} (n : Nat), VRs K L io H vs ds → VRs K L io H (vs.take n) (ds.take n)
  | _, _, 0, _ => .nil
  | _, _, _ + 1, .nil => .nil
  | _, _, n + 1, .cons h t => .cons h (VRs.take n t)
theorem VRs.drop : ∀ {vs : List V} {ds : List Dv} (n : Nat), VRs K L io H vs ds → VRs K L io H (vs.drop n) (ds.drop n)
  | _, _, 0, h => h
  | _, _, _ + 1, .nil => .nil
  | _, _, n + 1, .cons _ t => VRs.drop n t
end
def EnR (R : V → Dv → Prop) : List (NestedKey × Addr × V) → List (Dv × Dv) → Prop := Paired fun p q => R (.ref p.2.1) q.1 ∧ nkT q.1 = some p.1 ∧ R p.2.2 q.2
theorem EnR.mono {R R' : V → Dv → Prop} (h : ∀ v d, R v d → R' v d) : ∀ {l : List (NestedKey × Addr × V)} {m : List (Dv × Dv)}, EnR R l m → EnR R' l m
  | _, _, .nil => .nil
  | _, _, .cons r t => .cons ⟨h _ _ r.1, r.2.1, h _ _ r.2.2⟩ (EnR.mono h t)
def PairR {α : Type} (R : V → Dv → Prop) : List (α × V) → List (α × Dv) → Prop := Paired fun p q => p.1 = q.1 ∧ R p.2 q.2
def ObR (K : Kw) (L : Addr → Prop) (io : List Addr) (H : Hp) (a : Addr) : Ob → Prop
  | .lst l => ∃ xs, H a = some (.lst xs) ∧ VRs K L io H xs l
  | .dct l => ∃ kvs, H a = some (.dK kvs) ∧ PairR (VR K L io H) kvs l
  | .ins c fs => ∃ dx vs, H a = some (.ins (He.ga K c) dx vs) ∧ PairR (VR K L io H) vs fs
  | .dcn l => ∃ es, H a = some (dnO K.w a es) ∧ EnR (VR K L io H) es l
  | .ext _ c _ => a ∈ io ∧ a = tabA K c ∧ ∃ ps : Array Value, H a = some (.tbl ps) ∧ TriplesOk ps.toList ∧ ∀ (pos : Pos) (cv : Value), codeAmong pos ps.toList = some cv → ∃ c', cv = .ref c' ∧ VR K L io H (.ref c') (.ext 3 (lamQ c) [] [])
theorem PairR.mono {α : Type} {R R' : V → Dv → Prop} (h : ∀ v d, R v d → R' v d) : ∀ {l : List (α × V)} {m : List (α × Dv)}, PairR R l m → PairR R' l m
  | _, _, .nil => .nil
  | _, _, .cons r t => .cons ⟨r.1, h _ _ r.2⟩ (PairR.mono h t)
structure SR (K : Kw) (L : Addr → Prop) (io : List Addr) (H : Hp) (S : Sto) : Prop where
  len : io.length = S.length
  nd : io.Nodup
  sub : ∀ a ∈ io, L a
  dom : ∀ a, L a → H a ≠ none
  obj : ∀ (k : Nat) (a : Addr) (o : Ob), io[k]? = some a → S[k]? = some o → ObR K L io H a o
/-- the state of a frame: entered at L0, io0, H0 -/
structure FR (K : Kw) (L0 : Addr → Prop) (io0 : List Addr) (H0 : Hp) (L : Addr → Prop) (io : List Addr) (H : Hp) (g : St) (e : Env) (S : Sto) : Prop where
  st : SR K L io H S
  len : g.length = e.length
  va : ∀ (i : Nat) (d : Dv), e[i]? = some (.va d) → ∃ v, g[i]? = some (some v) ∧ VR K L io H v d
  own : ∀ (i : Nat) (o : Ob), e[i]? = some (.own o) → ∃ p, g[i]? = some (some (.ref p)) ∧ L p ∧ p ∉ io ∧ H0 p = none ∧ ObR K L io H p o
  inj : ∀ (i j : Nat) (p : Addr), i ≠ j → (∀ d, e[i]? ≠ some (.va d)) → (∀ d, e[j]? ≠ some (.va d)) → e[i]? ≠ some .no → e[j]? ≠ some .no → g[i]? = some (some (.ref p)) → g[j]? ≠ some (some (.ref p))
  en : Stp L0 io0 H0 L io H
  sub0 : ∀ a ∈ io0, L0 a
  dom0 : ∀ a, L0 a → H0 a ≠ none
section
variable {K : Kw} {L0 L L' : Addr → Prop} {io0 io io' : List Addr} {H0 H H' : Hp} {g : St} {e : Env} {S S' : Sto}
theorem FR.ow (f : FR K L0 io0 H0 L io H g e S) (i : Nat) (l : List Dv) (h : e[i]? = some (.ow l)) : ∃ p xs, g[i]? = some (some (.ref p)) ∧ L p ∧ p ∉ io ∧ H0 p = none ∧ H p = some (.lst xs) ∧ VRs K L io H xs l := by
  obtain ⟨p, h1, h2, h3, h4, xs, h5, h6⟩ := f.own i _ h
  exact ⟨p, xs, h1, h2, h3, h4, h5, h6⟩
theorem FR.od (f : FR K L0 io0 H0 L io H g e S) (i : Nat) (l : List (Key × Dv)) (h : e[i]? = some (.od l)) : ∃ p kvs, g[i]? = some (some (.ref p)) ∧ L p ∧ p ∉ io ∧ H0 p = none ∧ H p = some (.dK kvs) ∧ PairR (VR K L io H) kvs l := by
  obtain ⟨p, h1, h2, h3, h4, xs, h5, h6⟩ := f.own i _ h
  exact ⟨p, xs, h1, h2, h3, h4, h5, h6⟩
theorem FR.oi (f : FR K L0 io0 H0 L io H g e S) (i : Nat) (c : Str) (fs : List (Str × Dv)) (h : e[i]? = some (.oi c fs)) : ∃ p dx vs, g[i]? = some (some (.ref p)) ∧ L p ∧ p ∉ io ∧ H0 p = none ∧ H p = some (.ins (He.ga K c) dx vs) ∧ PairR (VR K L io H) vs fs := by
  obtain ⟨p, h1, h2, h3, h4, dx, vs, h5, h6⟩ := f.own i _ h
  exact ⟨p, dx, vs, h1, h2, h3, h4, h5, h6⟩
theorem ObR.has {a : Addr} {o : Ob} (h : ObR K L io H a o) : ∃ u, H a = some u := by
  cases o with
  | lst l => exact ⟨_, h.choose_spec.1⟩
  | dct l => exact ⟨_, h.choose_spec.1⟩
  | ins c fs => exact ⟨_, h.choose_spec.choose_spec.1⟩
  | ext t c l => obtain ⟨_, _, ps, e, _⟩ := h; exact ⟨_, e⟩
  | dcn l => obtain ⟨es, e, _⟩ := h; exact ⟨_, e⟩
theorem ObR.mono {a : Addr} {o : Ob} (h : ObR K L io H a o) (k : ∀ u, H a = some u → H' a = some u) (m : ∀ v d, VR K L io H v d → VR K L' io' H' v d) : ObR K L' io' H' a o := by
  cases o with
  | lst l =>
    obtain ⟨xs, e, r⟩ := h
    exact ⟨xs, k _ e, r.mono m⟩
  | dct l =>
    obtain ⟨xs, e, r⟩ := h
    exact ⟨xs, k _ e, r.mono m⟩
  | ins c fs =>
    obtain ⟨dx, xs, e, r⟩ := h
    exact ⟨dx, xs, k _ e, r.mono m⟩
  | dcn l =>
    obtain ⟨es, e, r⟩ := h
    exact ⟨es, k _ e, r.mono m⟩
  | ext t c l =>
    obtain ⟨hi, ht, ps, e, r0, r⟩ := h
    obtain ⟨j, hj, he⟩ := List.getElem_of_mem hi
    have q := m (.ref a) (.hdl j) (.hdl (by rw [List.getElem?_eq_getElem hj, he]))
    cases q with
    | hdl q => exact ⟨List.mem_of_getElem? q, ht, ps, k _ e, r0, fun pos cv hc => by
        obtain ⟨c', e1, e2⟩ := r pos cv hc
        exact ⟨c', e1, m _ _ e2⟩⟩
/-- an expression was worked out: the frame stands -/
theorem FR.step (f : FR K L0 io0 H0 L io H g e S) (s : Stp L io H L' io' H') (st : SR K L' io' H' S') : FR K L0 io0 H0 L' io' H' g e S' where
  st := st
  len := f.len
  va := fun i d h => by
    obtain ⟨v, h1, h2⟩ := f.va i d h
    exact ⟨v, h1, h2.step s f.st.sub⟩
  own := fun i o h => by
    obtain ⟨p, h1, h2, h3, h4, h5⟩ := f.own i o h
    obtain ⟨u, h6⟩ := ObR.has (o := o) h5
    refine ⟨p, h1, s.up p h2, fun z => ?_, h4, ObR.mono (o := o) h5 (fun u h => s.keep p u h h3) fun v d r => r.step s f.st.sub⟩
    rcases s.hn p z with q | q
    · exact h3 q
    · rw [q] at h6; cases h6
  inj := f.inj
  en := f.en.trans s f.sub0
  sub0 := f.sub0
  dom0 := f.dom0
end
end DL
namespace DL
open PySem L2
/-- what comes of a piece: a value, an exception of an own class with its fields, or nothing that is known -/
inductive Res (α : Type) where
  | ok (a : α) (S : Sto) | ex (c : Str) (fs : List (Str × Dv)) (S : Sto) | no
abbrev DE := Env → Sto → Res Dv
abbrev DT := Env → Sto → Res Bool
abbrev DA := Env → Sto → Res (List Dv)
def ExR (K : Kw) (L : Addr → Prop) (io : List Addr) (H : Hp) (x : Option Addr) (fs : List (Str × Dv)) : Prop := (x = none ∧ fs = []) ∨ ∃ a vs, x = some a ∧ ¬ L a ∧ H a = some (.xd vs) ∧ PairR (VR K L io H) vs fs
/-- the end of a piece -/
def Fin {α β : Type} (K : Kw) (W : WX) (R : (Addr → Prop) → List Addr → Hp → β → α → Prop) (g : St) (L : Addr → Prop) (io : List Addr) (H : Hp) (Q : β → Hp → Prop) : Res α → Prop
  | .ok d S' => ∀ (v : β) (H' : Hp) (L' : Addr → Prop) (io' : List Addr), Stp L io H L' io' H' → SR K L' io' H' S' → R L' io' H' v d → Q v H'
  | .ex c fs S' => ∀ (x : Option Addr) (H' : Hp) (L' : Addr → Prop) (io' : List Addr), Stp L io H L' io' H' → SR K L' io' H' S' → ExR K L' io' H' x fs → W (.ref (He.ga K c)) x g H'
  | .no => False
/-- the reading of a piece that works out f -/
def Rdg {α β : Type} (K : Kw) (W : WX) (R : (Addr → Prop) → List Addr → Hp → β → α → Prop) (f : Env → Sto → Res α) : St → Hp → (β → Hp → Prop) → Prop := fun g H Q =>
  ∃ (L0 : Addr → Prop) (io0 : List Addr) (H0 : Hp) (L : Addr → Prop) (io : List Addr) (e : Env) (S : Sto), FR K L0 io0 H0 L io H g e S ∧ Fin K W R g L io H Q (f e S)
def rd (K : Kw) (W : WX) (f : DE) : TE := Rdg K W (VR K) f
def rdt (K : Kw) (W : WX) (f : DT) : TT := Rdg K W (fun _ _ _ (v : Bool) d => v = d) f
def rda (K : Kw) (W : WX) (f : DA) : TA := Rdg K W (VRs K) f
abbrev QE (X : Cx) (W : WX) (e : Expr) (f : DE) : Prop := PE X e (rd X.kw W f)
abbrev QT (X : Cx) (W : WX) (e : Expr) (f : DT) : Prop := PT X e (rdt X.kw W f)
abbrev QA (X : Cx) (W : WX) (es : List Expr) (f : DA) : Prop := PA X es (rda X.kw W f)
theorem pe_imp {X : Cx} {e : Expr} {t t' : TE} (h : PE X e t) (i : ∀ g H Q, t' g H Q → t g H Q) : PE X e t' := ⟨fun pins s g H Q I q => h.run pins s g H Q I (i g H Q q)⟩
theorem pt_imp {X : Cx} {e : Expr} {t t' : TT} (h : PT X e t) (i : ∀ g H Q, t' g H Q → t g H Q) : PT X e t' := ⟨fun pins s g H Q I q => h.run pins s g H Q I (i g H Q q)⟩
theorem pw_imp {X : Cx} {e : Expr} {t t' : TT} (h : PW X e t) (i : ∀ g H Q, t' g H Q → t g H Q) : PW X e t' := ⟨fun w pins s g H Q I q => h.run w pins s g H Q I (i g H Q q)⟩
theorem pa_imp {X : Cx} {e : List Expr} {t t' : TA} (h : PA X e t) (i : ∀ g H Q, t' g H Q → t g H Q) : PA X e t' := ⟨fun p pins s g H Q I q => h.run p pins s g H Q I (i g H Q q)⟩
theorem ps_imp {X : Cx} {e : Stmt} {t t' : TS} (h : PS X e t) (i : ∀ D g H, t' D g H → t D g H) : PS X e t' := ⟨fun pins s g H D I q => h.run pins s g H D I (i D g H q)⟩
theorem pss_imp {X : Cx} {e : List Stmt} {t t' : TS} (h : PSs X e t) (i : ∀ D g H, t' D g H → t D g H) : PSs X e t' := ⟨fun pins s g H D I q => h.run pins s g H D I (i D g H q)⟩
section
variable {K : Kw} {L L' : Addr → Prop} {io io' : List Addr} {H H' : Hp} {S S' : Sto} {p : Addr} {o : HO}
theorem SR.fresh (s : SR K L io H S) (hp : H p = none) : ¬ L p := fun z => s.dom p z hp
theorem Stp.alloc (hp : H p = none) : Stp L io H L io (upd H p o) := ⟨⟨[], by simp⟩, fun _ h => .inl h, fun _ h => .inl h, fun a u e _ => by rw [upd_ne (ne_of_none e hp)]; exact e, fun _ h => h⟩
theorem SR.alloc (s : SR K L io H S) (hp : H p = none) : SR K L io (upd H p o) S where
  len := s.len
  nd := s.nd
  sub := s.sub
  dom := fun a ha => by
    by_cases e : a = p
    · rw [e, upd_same]; exact fun z => nomatch z
    · rw [upd_ne e]; exact s.dom a ha
  obj := fun k a ob h1 h2 => (s.obj k a ob h1 h2).mono (fun u e => by rw [upd_ne (ne_of_none e hp)]; exact e) fun v d r => r.step (Stp.alloc hp) s.sub
theorem VR.newT {xs : List V} {ds : List Dv} (s : SR K L io H S) (hp : H p = none) (r : VRs K L io H xs ds) : VR K L io (upd H p (.tup xs)) (.ref p) (.tup ds) :=
  .tup (s.fresh hp) upd_same (r.step (Stp.alloc hp) s.sub)
theorem VR.newL {xs : List V} {ds : List Dv} (s : SR K L io H S) (hp : H p = none) (r : VRs K L io H xs ds) : VR K L io (upd H p (.lst xs)) (.ref p) (.lst ds) :=
  .lst (s.fresh hp) upd_same (r.step (Stp.alloc hp) s.sub)
end
def asL (S : Sto) : Dv → Option (List Dv)
  | .lst l => some l
  | .rol l => some l
  | .hdl k => match S[k]? with
    | some (.lst l) => some l
    | _ => none
  | _ => none
def asT : Dv → Option (List Dv)
  | .tup l => some l
  | _ => none
section
variable {K : Kw} {L : Addr → Prop} {io : List Addr} {H : Hp} {S : Sto} {v : V} {d : Dv} {l : List Dv}
theorem asL_ok (s : SR K L io H S) (r : VR K L io H v d) (h : asL S d = some l) : ∃ a xs, v = .ref a ∧ SqL K H a xs ∧ VRs K L io H xs l := by
  cases r with
  | lst nl e t => cases h; exact ⟨_, _, rfl, SqL.of e, t⟩
  | rol nl e t => cases h; exact ⟨_, _, rfl, .inl e, t⟩
  | rolK e t => cases h; exact ⟨_, _, rfl, e H, t⟩
  | hdl hk =>
    rename_i a k
    cases q : S[k]? with
    | none => simp [asL, q] at h
    | some o =>
      cases o with
      | lst l' =>
        simp [asL, q] at h
        subst h
        obtain ⟨xs, e, t⟩ := s.obj k a _ hk q
        exact ⟨a, xs, rfl, SqL.of e, t⟩
      | _ => simp [asL, q] at h
  | _ => cases h
theorem asT_ok (r : VR K L io H v d) (h : asT d = some l) : ∃ a xs, v = .ref a ∧ SqT K H a xs ∧ VRs K L io H xs l := by
  cases r with
  | tup nl e t => cases h; exact ⟨_, _, rfl, SqT.of e, t⟩
  | tupK e t => cases h; exact ⟨_, _, rfl, e.1 H, t⟩
  | _ => cases h
end
def vwO : Ob → Dv
  | .lst l => .lst l
  | .dct l => .dic l
  | .ins c fs => .obj c fs
  | .ext _ _ _ => .ext 0 "" [] []
  | .dcn l => .ext 4 "" [] (flD l)
def VX (K : Kw) (L : Addr → Prop) (io : List Addr) (H : Hp) (v : V) (d : Dv) : Prop := VR K L io H v d ∨ ∃ p o, v = .ref p ∧ d = vwO o ∧ p ∉ io ∧ ObR K L io H p o
def isV : Dv → Bool
  | .lst _ => true
  | .dic _ => true
  | .obj _ _ => true
  | .ext 0 _ _ _ => true
  | .ext 4 _ _ _ => true
  | _ => false
section
variable {K : Kw} {L L' : Addr → Prop} {io io' : List Addr} {H H' : Hp} {S : Sto} {v : V} {d : Dv} {l : List Dv}
theorem VX.vr (r : VX K L io H v d) (h : isV d = false) : VR K L io H v d := by
  rcases r with r | ⟨p, o, rfl, rfl, _, _⟩
  · exact r
  · cases o <;> cases h
theorem VX.step (r : VX K L io H v d) (s : Stp L io H L' io' H') (sub : ∀ x ∈ io, L x) : VX K L' io' H' v d := by
  rcases r with r | ⟨p, o, rfl, rfl, np, ob⟩
  · exact .inl (r.step s sub)
  · obtain ⟨u, hu⟩ := ob.has
    refine .inr ⟨p, o, rfl, rfl, fun z => ?_, ob.mono (fun u e => s.keep p u e np) fun v d r => r.step s sub⟩
    rcases s.hn p z with q | q
    · exact np q
    · rw [q] at hu; cases hu
theorem asL_x (s : SR K L io H S) (r : VX K L io H v d) (h : asL S d = some l) : ∃ a xs, v = .ref a ∧ SqL K H a xs ∧ VRs K L io H xs l := by
  rcases r with r | ⟨p, o, rfl, rfl, np, ob⟩
  · exact asL_ok s r h
  · cases o with
    | lst m => cases h; obtain ⟨xs, e, t⟩ := ob; exact ⟨p, xs, rfl, SqL.of e, t⟩
    | _ => cases h
theorem VX.lst (r : VX K L io H v (.lst l)) : ∃ p xs, v = .ref p ∧ H p = some (.lst xs) ∧ VRs K L io H xs l := by
  rcases r with r | ⟨p, o, rfl, e, np, ob⟩
  · cases r with
    | lst n h t => exact ⟨_, _, rfl, h, t⟩
  · cases o with
    | lst m => cases e; obtain ⟨xs, e, t⟩ := ob; exact ⟨p, xs, rfl, e, t⟩
    | _ => cases e
theorem asT_x (r : VX K L io H v d) (h : asT d = some l) : ∃ a xs, v = .ref a ∧ SqT K H a xs ∧ VRs K L io H xs l := asT_ok (r.vr (by cases d <;> first | rfl | cases h)) h
inductive VXs (K : Kw) (L : Addr → Prop) (io : List Addr) (H : Hp) : List V → List Dv → Prop
  | nil : VXs K L io H [] []
  | cons {v : V} {vs : List V} {d : Dv} {ds : List Dv} : VX K L io H v d → VXs K L io H vs ds → VXs K L io H (v :: vs) (d :: ds)
theorem VRs.x : ∀ {vs : List V} {l : List Dv}, VRs K L io H vs l → VXs K L io H vs l
  | _, _, .nil => .nil
  | _, _, .cons h t => .cons (.inl h) t.x
end
abbrev QX (X : Cx) (W : WX) (e : Expr) (f : DE) : Prop := PE X e (Rdg X.kw W (VX X.kw) f)
abbrev QXs (X : Cx) (W : WX) (es : List Expr) (f : DA) : Prop := PA X es (Rdg X.kw W (VXs X.kw) f)
def ofO {α : Type} : Option (α × Sto) → Res α
  | some (a, S) => .ok a S
  | none => .no
def bnd {α β : Type} (x : Res α) (k : α → Sto → Res β) : Res β := match x with
  | .ok a S => k a S
  | .ex c fs S => .ex c fs S
  | .no => .no
@[simp] theorem bnd_ok {α β : Type} (a : α) (S : Sto) (k : α → Sto → Res β) : bnd (.ok a S) k = k a S := rfl
@[simp] theorem ofO_some {α : Type} (a : α) (S : Sto) : ofO (some (a, S)) = .ok a S := rfl
section
variable {X : Cx} {W : WX} {pos : Pos}
def eVar (i : Nat) : DE := fun e S => match e[i]? with
  | some (.va d) => .ok d S
  | _ => .no
def eC (d : Dv) : DE := fun _ S => .ok d S
theorem rd_var {K : Kw} {i : Nat} {g : St} {H : Hp} {Q : VK} (h : rd K W (eVar i) g H Q) : tVar i g H Q := by
  obtain ⟨L0, io0, H0, L, io, e, S, fr, h⟩ := h
  cases q : e[i]? with
  | none => simp only [eVar, q] at h; exact h.elim
  | some sl =>
    cases sl with
    | va d' =>
      simp only [eVar, q] at h
      obtain ⟨v, h1, h2⟩ := fr.va i _ q
      exact ⟨v, h1, h v H L io (Stp.refl ..) fr.st h2⟩
    | _ => simp only [eVar, q] at h; exact h.elim
theorem qe_var (i : Nat) {x : Str} (hN : X.N[i]? = some x := by rfl) (hv : Vis X.env.scope x := by first | exact Or.inl rfl | exact Or.inr (Or.inl rfl) | exact Or.inr (Or.inr rfl)) (hd : (x == ("__debug__" : Str)) = false := by decide)
    (hcd : (x == ("__classdict__" : Str)) = false := by decide) : QE X W (.Name x pos) (eVar i) := pe_imp (pe_var hN hv hd hcd) fun _ _ _ h => rd_var h
theorem rd_C {K : Kw} {d : Dv} {v : V} {g : St} {H : Hp} {Q : VK} (r : ∀ L io, VR K L io H v d) (h : rd K W (eC d) g H Q) : tC v g H Q := by
  obtain ⟨L0, io0, H0, L, io, e, S, fr, h⟩ := h
  exact h v H L io (Stp.refl ..) fr.st (r _ _)
theorem qe_int {i : Int} {j} : QE X W (.Constant (.int i) j pos) (eC (.int i)) := pe_imp pe_int fun _ _ _ h => rd_C (fun _ _ => .int i) h
theorem qe_bl {b : Bool} {j} : QE X W (.Constant (.bool b) j pos) (eC (.bl b)) := pe_imp pe_bl fun _ _ _ h => rd_C (fun _ _ => .bl b) h
theorem qe_non {j} : QE X W (.Constant .none j pos) (eC .non) := pe_imp pe_non fun _ _ _ h => rd_C (fun _ _ => .non) h
theorem qe_str {x : Str} {j} : QE X W (.Constant (.str x) j pos) (eC (.str x)) := pe_imp pe_str fun _ _ _ h => rd_C (fun _ _ => .str x) h
/-- a module's name: a constant, a def, a class -/
theorem qe_glob {x : Str} {v : V} {d : Dv} {u : Value} (hm : X.mg x = some u) (r : RelV v u) (hr : ∀ L io H, VR X.kw L io H v d) (hg : Gl X x := by rfl) (hd : (x == ("__debug__" : Str)) = false := by decide) : QE X W (.Name x pos) (eC d) :=
  pe_imp (pe_glob hg hm r hd) fun _ _ _ h => rd_C (fun _ _ => hr _ _ _) h
/-- a built-in class as a value -/
theorem qe_ty {x : Str} {n : String} (hm : X.mg x = none) (hv : bootBuiltins x = some (.type n)) (hg : Gl X x := by rfl) (hn : x ≠ "__name__" := by decide) (hd : (x == ("__debug__" : Str)) = false := by decide) : QE X W (.Name x pos) (eC (.ty n)) :=
  pe_imp (pe_bltn (v := .ty n) hg hm hv rfl hn hd) fun _ _ _ h => rd_C (fun _ _ => .ty n) h
end
section
variable {K : Kw} {W : WX} {α α' β β' γ : Type} {R : (Addr → Prop) → List Addr → Hp → β → α → Prop} {R' : (Addr → Prop) → List Addr → Hp → β' → α' → Prop}
theorem Fin.later {g : St} {L L1 : Addr → Prop} {io io1 : List Addr} {H H1 : Hp} {Q : β' → Hp → Prop} {r : Res α'} (h : Fin K W R' g L io H Q r) (s : Stp L io H L1 io1 H1) (sub : ∀ x ∈ io, L x) : Fin K W R' g L1 io1 H1 Q r := by
  cases r with
  | ok d S' => exact fun v H' L' io' s2 sr r2 => h v H' L' io' (s.trans s2 sub) sr r2
  | ex c fs S' => exact fun v H' L' io' s2 sr r2 => h v H' L' io' (s.trans s2 sub) sr r2
  | no => exact h
/-- the next part of a piece is worked out; the rest goes on -/
theorem Fin.bind {f : Env → Sto → Res α} {k : α → Sto → Res α'} {g : St} {L0 L : Addr → Prop} {io0 io : List Addr} {H0 H : Hp} {e : Env} {S : Sto} {Q : β' → Hp → Prop} {P : β → Hp → Prop}
    (fr : FR K L0 io0 H0 L io H g e S) (h : Fin K W R' g L io H Q (bnd (f e S) k))
    (n : ∀ (L1 : Addr → Prop) (io1 : List Addr) (H1 : Hp) (S1 : Sto) (a : α) (v : β), Stp L io H L1 io1 H1 → FR K L0 io0 H0 L1 io1 H1 g e S1 → R L1 io1 H1 v a → Fin K W R' g L1 io1 H1 Q (k a S1) → P v H1) : Rdg K W R f g H P := by
  refine ⟨L0, io0, H0, L, io, e, S, fr, ?_⟩
  cases hf : f e S with
  | ok a S1 =>
    rw [hf] at h
    intro v H1 L1 io1 s1 sr1 r1
    exact n L1 io1 H1 S1 a v s1 (fr.step s1 sr1) r1 (Fin.later (L := L) (io := io) (H := H) h s1 fr.st.sub)
  | ex c fs S1 =>
    rw [hf] at h
    exact h
  | no =>
    rw [hf] at h
    exact h
/-- the first part of a piece -/
theorem Rdg.bind {f : Env → Sto → Res α} {k : Env → α → Sto → Res α'} {g : St} {H : Hp} {Q : β' → Hp → Prop} {P : β → Hp → Prop}
    (h : Rdg K W R' (fun e S => bnd (f e S) (k e)) g H Q)
    (n : ∀ (L0 : Addr → Prop) (io0 : List Addr) (H0 : Hp) (L : Addr → Prop) (io : List Addr) (H1 : Hp) (e : Env) (S : Sto) (a : α) (v : β), FR K L0 io0 H0 L io H1 g e S → R L io H1 v a → Fin K W R' g L io H1 Q (k e a S) → P v H1) : Rdg K W R f g H P := by
  obtain ⟨L0, io0, H0, L, io, e, S, fr, h⟩ := h
  exact Fin.bind (k := k e) fr h fun L1 io1 H1 S1 a v _ fr1 r1 q => n L0 io0 H0 L1 io1 H1 e S1 a v fr1 r1 q
theorem Fin.ok1 {g : St} {L : Addr → Prop} {io : List Addr} {H : Hp} {Q : β' → Hp → Prop} {d : α'} {S : Sto} (h : Fin K W R' g L io H Q (.ok d S)) (sr : SR K L io H S) {v : β'} (r : R' L io H v d) : Q v H := h v H L io (Stp.refl ..) sr r
theorem Fin.rdg {f : Env → Sto → Res α'} {g : St} {L0 L : Addr → Prop} {io0 io : List Addr} {H0 H : Hp} {Q : β' → Hp → Prop} {e : Env} {S : Sto} (fr : FR K L0 io0 H0 L io H g e S) (h : Fin K W R' g L io H Q (f e S)) : Rdg K W R' f g H Q :=
  ⟨L0, io0, H0, L, io, e, S, fr, h⟩
end
theorem Rdg.weaken {K : Kw} {W : WX} {α β : Type} {R R' : (Addr → Prop) → List Addr → Hp → β → α → Prop} (h : ∀ L io H v d, R' L io H v d → R L io H v d) {f : Env → Sto → Res α} {g : St} {H : Hp} {Q : β → Hp → Prop} (q : Rdg K W R f g H Q) : Rdg K W R' f g H Q := by
  obtain ⟨L0, io0, H0, L, io, e, S, fr, q⟩ := q
  refine ⟨L0, io0, H0, L, io, e, S, fr, ?_⟩
  cases hf : f e S with
  | ok d S' => rw [hf] at q; exact fun v H' L' io' s sr r => q v H' L' io' s sr (h _ _ _ _ _ r)
  | ex c fs S' => rw [hf] at q; exact q
  | no => rw [hf] at q; exact q
/-- r serves what h gives -/
def OpS (K : Kw) (r : R2) (h : Sto → Dv → Dv → Option (Dv × Sto)) : Prop :=
  ∀ (L : Addr → Prop) (io : List Addr) (H : Hp) (S : Sto) (x y : V) (a b d : Dv) (S' : Sto) (Q : VK), SR K L io H S → VX K L io H x a → VX K L io H y b → h S a b = some (d, S') →
    (∀ (v : V) (H' : Hp) (L' : Addr → Prop) (io' : List Addr), Stp L io H L' io' H' → SR K L' io' H' S' → VR K L' io' H' v d → Q v H') → r x y H Q
theorem Fin.opt {α' β' : Type} {K : Kw} {W : WX} {R' : (Addr → Prop) → List Addr → Hp → β' → α' → Prop} {g : St} {L : Addr → Prop} {io : List Addr} {H : Hp} {Q : β' → Hp → Prop} {o : Option (α' × Sto)} (h : Fin K W R' g L io H Q (ofO o)) :
    ∃ d S', o = some (d, S') ∧ ∀ (v : β') (H' : Hp) (L' : Addr → Prop) (io' : List Addr), Stp L io H L' io' H' → SR K L' io' H' S' → R' L' io' H' v d → Q v H' := by
  cases o with
  | none => exact h.elim
  | some p => exact ⟨p.1, p.2, rfl, h⟩
def eBin (h : Sto → Dv → Dv → Option (Dv × Sto)) (f1 f2 : DE) : DE := fun e S => bnd (f1 e S) fun a S1 => bnd (f2 e S1) fun b S2 => ofO (h S2 a b)
theorem rd_bin {K : Kw} {W : WX} {r : R2} {h : Sto → Dv → Dv → Option (Dv × Sto)} {f1 f2 : DE} (ho : OpS K r h) {g : St} {H : Hp} {Q : VK} (q : rd K W (eBin h f1 f2) g H Q) : tOp r (Rdg K W (VX K) f1) (Rdg K W (VX K) f2) g H Q := by
  refine Rdg.bind (R := VX K) (k := fun e a S1 => bnd (f2 e S1) fun b S2 => ofO (h S2 a b)) q fun L0 io0 H0 L io H1 e S a v fr ra q => ?_
  refine Fin.bind (R := VX K) (k := fun b S2 => ofO (h S2 a b)) fr q fun L2 io2 H2 S2 b w s2 fr2 rb q => ?_
  obtain ⟨d, S3, h1, h2⟩ := q.opt
  exact ho L2 io2 H2 S2 v w a b d S3 Q fr2.st (ra.step s2 fr.st.sub) rb h1 h2
section
variable {X : Cx} {W : WX} {pos : Pos} {a b : Expr} {f f1 f2 : DE} {r : R2} {h : Sto → Dv → Dv → Option (Dv × Sto)}
theorem qx (ha : QE X W a f) : QX X W a f := pe_imp ha fun g H Q q => q.weaken fun _ _ _ _ _ r => .inl r
theorem qe_op {op : Operator} (ho : OpR X (binaryOp op) r) (hs : OpS X.kw r h) (ha : QX X W a f1) (hb : QX X W b f2) : QE X W (.BinOp a op b pos) (eBin h f1 f2) := pe_imp (pe_op ho ha hb) fun _ _ _ q => rd_bin hs q
theorem qe_cmp {op : CmpOp} (ho : OpR X (compareOp op) r) (hs : OpS X.kw r h) (ha : QX X W a f1) (hb : QX X W b f2) (hm : behindInMarks op b = false := by first | exact nomark _ | rfl) : QE X W (.Compare a [op] [b] pos) (eBin h f1 f2) := pe_imp (pe_cmpR ho ha hb hm) fun _ _ _ q => rd_bin hs q
/-- an expression whose value is a truth, as a test -/
def blD : Dv → Sto → Res Bool
  | .bl b, S => .ok b S
  | _, _ => .no
def tVal (f : DE) : DT := fun e S => bnd (f e S) blD
theorem rd_tval {K : Kw} {f : DE} {g : St} {H : Hp} {Q : Bool → Hp → Prop} (q : rdt K W (tVal f) g H Q) : tTest (rd K W f) g H Q := by
  refine Rdg.bind (R := VR K) (k := fun _ => blD) q fun L0 io0 H0 L io H1 e S a v fr ra q => ?_
  cases ra with
  | bl b => exact ⟨_, rfl, q.ok1 fr.st rfl⟩
  | _ => exact q.elim
theorem qt_cmp {op : CmpOp} (ho : OpR X (compareOp op) r) (hs : OpS X.kw r h) (ha : QX X W a f1) (hb : QX X W b f2) (hm : behindInMarks op b = false := by first | exact nomark _ | rfl) : QT X W (.Compare a [op] [b] pos) (tVal (eBin h f1 f2)) :=
  pt_imp (pt_cmpR ho ha hb hm) fun g H Q q => by
    have z := rd_tval q
    exact (show tTest (tOp r (Rdg X.kw W (VX X.kw) f1) (Rdg X.kw W (VX X.kw) f2)) g H Q from rd_bin hs z)
end
end DL
namespace DL
open PySem L2
def pu2 (h : Dv → Dv → Option Dv) : Sto → Dv → Dv → Option (Dv × Sto) := fun S a b => (h a b).map fun d => (d, S)
theorem pu2_ok {h : Dv → Dv → Option Dv} {S S' : Sto} {a b d : Dv} (e : pu2 h S a b = some (d, S')) : h a b = some d ∧ S' = S := by
  unfold pu2 at e
  cases q : h a b with
  | none => rw [q] at e; cases e
  | some z => rw [q] at e; cases e; exact ⟨rfl, rfl⟩
def iop (g : Int → Int → Option Dv) : Dv → Dv → Option Dv
  | .int i, .int j => g i j
  | _, _ => none
/-- an operator of two ints -/
theorem ops_int {K : Kw} {C : Int → Int → Prop} {gv : Int → Int → V} {g : Int → Int → Option Dv} (hg : ∀ i j d, g i j = some d → C i j ∧ ∀ L io H, VR K L io H (gv i j) d) : OpS K (rI C gv) (pu2 (iop g)) := by
  intro L io H S x y a b d S' Q sr ra rb e0 q
  obtain ⟨e, rfl⟩ := pu2_ok e0
  clear e0
  cases a with
  | int i =>
    cases b with
    | int j =>
      cases ra.vr rfl; cases rb.vr rfl
      obtain ⟨hc, r⟩ := hg i j d e
      exact ⟨i, j, rfl, rfl, hc, q _ H L io (Stp.refl ..) sr (r _ _ _)⟩
    | _ => cases e
  | _ => cases e
theorem ops_int0 {K : Kw} {gv : Int → Int → V} {g : Int → Int → Dv} (hg : ∀ i j L io H, VR K L io H (gv i j) (g i j)) : OpS K (rI0 gv) (pu2 (iop fun i j => some (g i j))) := by
  intro L io H S x y a b d S' Q sr ra rb e0 q
  obtain ⟨e, rfl⟩ := pu2_ok e0
  clear e0
  cases a with
  | int i =>
    cases b with
    | int j =>
      cases ra.vr rfl; cases rb.vr rfl
      cases e
      exact ⟨i, j, rfl, rfl, q _ H L io (Stp.refl ..) sr (hg _ _ _ _ _)⟩
    | _ => cases e
  | _ => cases e
def subD : Dv → Dv → Option Dv := iop fun i j => some (.int (i - j))
def mulD : Dv → Dv → Option Dv := iop fun i j => if (-(2 ^ 64) < i ∧ i < 2 ^ 64) ∨ (-(2 ^ 64) < j ∧ j < 2 ^ 64) then some (.int (i * j)) else none
def modD : Dv → Dv → Option Dv := iop fun i j => if 0 < j then some (.int (i % j)) else none
def fdivD : Dv → Dv → Option Dv := iop fun i j => if 0 < j ∧ j < 1073741824 then some (.int (i / j)) else none
def ltD : Dv → Dv → Option Dv := iop fun i j => some (.bl (decide (i < j)))
def leD : Dv → Dv → Option Dv := iop fun i j => some (.bl (decide (i ≤ j)))
def gtD : Dv → Dv → Option Dv := iop fun i j => some (.bl (decide (j < i)))
def geD : Dv → Dv → Option Dv := iop fun i j => some (.bl (decide (j ≤ i)))
section
variable {X : Cx} {W : WX} {pos : Pos} {a b : Expr} {f1 f2 : DE}
theorem qe_mul (ha : QX X W a f1) (hb : QX X W b f2) : QE X W (.BinOp a .Mult b pos) (eBin (pu2 mulD) f1 f2) := qe_op op_mul (ops_int fun i j d e => by
  split at e
  · rename_i h; cases e; exact ⟨h, fun _ _ _ => .int _⟩
  · cases e) ha hb
theorem qe_mod (ha : QX X W a f1) (hb : QX X W b f2) : QE X W (.BinOp a .Mod b pos) (eBin (pu2 modD) f1 f2) := qe_op op_mod (ops_int fun i j d e => by
  split at e
  · rename_i h; cases e; exact ⟨h, fun _ _ _ => .int _⟩
  · cases e) ha hb
theorem qe_fdiv (ha : QX X W a f1) (hb : QX X W b f2) : QE X W (.BinOp a .FloorDiv b pos) (eBin (pu2 fdivD) f1 f2) := qe_op op_fdiv (ops_int fun i j d e => by
  split at e
  · rename_i h; cases e; exact ⟨h, fun _ _ _ => .int _⟩
  · cases e) ha hb
theorem qt_lt (ha : QX X W a f1) (hb : QX X W b f2) : QT X W (.Compare a [.Lt] [b] pos) (tVal (eBin (pu2 ltD) f1 f2)) := qt_cmp op_lt (ops_int0 fun _ _ _ _ _ => .bl _) ha hb
theorem qt_gt (ha : QX X W a f1) (hb : QX X W b f2) : QT X W (.Compare a [.Gt] [b] pos) (tVal (eBin (pu2 gtD) f1 f2)) := qt_cmp op_gt (ops_int0 fun _ _ _ _ _ => .bl _) ha hb
theorem qt_ge (ha : QX X W a f1) (hb : QX X W b f2) : QT X W (.Compare a [.GtE] [b] pos) (tVal (eBin (pu2 geD) f1 f2)) := qt_cmp op_ge (ops_int0 fun _ _ _ _ _ => .bl _) ha hb
end
def rAddA (K : Kw) : R2 := fun x y H Q => rI0 (fun i j => .int (i + j)) x y H Q ∨ (∃ i j, x = .str i ∧ y = .str j ∧ i.length + j.length ≤ sizeLine ∧ Q (.str (i ++ j)) H) ∨ rCatA K x y H Q ∨ rCat x y H Q
theorem op_addA {X : Cx} : OpR X (binaryOp .Add) (rAddA X.kw) := op_add.or (op_add_str.or (op_catA.or op_cat))
def asH (S : Sto) : Dv → Option (List Dv)
  | .lst l => some l
  | .hdl k => match S[k]? with
    | some (.lst l) => some l
    | _ => none
  | _ => none
theorem asH_x {K : Kw} {L : Addr → Prop} {io : List Addr} {H : Hp} {S : Sto} {v : V} {d : Dv} {l : List Dv} (s : SR K L io H S) (r : VX K L io H v d) (h : asH S d = some l) : ∃ a xs, v = .ref a ∧ H a = some (.lst xs) ∧ VRs K L io H xs l := by
  cases d with
  | lst m => cases h; exact r.lst
  | hdl k =>
    cases q : S[k]? with
    | none => simp [asH, q] at h
    | some o =>
      cases o with
      | lst m =>
        simp [asH, q] at h
        subst h
        cases r.vr rfl with
        | hdl hk =>
          obtain ⟨xs, e, t⟩ := s.obj k _ _ hk q
          exact ⟨_, xs, rfl, e, t⟩
      | _ => simp [asH, q] at h
  | _ => cases h
def addD : Sto → Dv → Dv → Option (Dv × Sto)
  | S, .int i, .int j => some (.int (i + j), S)
  | S, .str x, .str y => if x.length + y.length ≤ sizeLine then some (.str (x ++ y), S) else none
  | S, .tup l, .tup m => if l.length + m.length ≤ sizeLine then some (.tup (l ++ m), S) else none
  | S, .lst l, b => (asH S b).bind fun m => if l.length + m.length ≤ sizeLine then some (.lst (l ++ m), S) else none
  | S, .hdl k, b => (asH S (.hdl k)).bind fun l => (asH S b).bind fun m => if l.length + m.length ≤ sizeLine then some (.lst (l ++ m), S) else none
  | _, _, _ => none
theorem VR.tupS {K : Kw} {L : Addr → Prop} {io : List Addr} {H : Hp} {v : V} {l : List Dv} (r : VR K L io H v (.tup l)) : ∃ a xs, v = .ref a ∧ SqT K H a xs ∧ VRs K L io H xs l := asT_ok r rfl
theorem VRs.nil_iff {K : Kw} {L : Addr → Prop} {io : List Addr} {H : Hp} {vs : List V} {l : List Dv} (r : VRs K L io H vs l) : vs = [] ↔ l = [] := by
  cases r <;> simp
theorem ops_add {K : Kw} : OpS K (rAddA K) addD := by
  intro L io H S x y a b d S' Q sr ra rb e q
  have lst : ∀ l, asH S a = some l → ((asH S b).bind fun m => if l.length + m.length ≤ sizeLine then some (Dv.lst (l ++ m), S) else none) = some (d, S') → rAddA K x y H Q := by
    intro l h1 e
    cases h : asH S b with
    | none => rw [h] at e; cases e
    | some m =>
      rw [h] at e
      simp only [Option.bind_some] at e
      split at e
      · rename_i hl
        cases e
        obtain ⟨p1, xs, rfl, e1, r1⟩ := asH_x sr ra h1
        obtain ⟨p2, ys, rfl, e2, r2⟩ := asH_x sr rb h
        exact .inr (.inr (.inr ⟨_, _, _, _, rfl, rfl, e1, e2, by rw [r1.len, r2.len]; exact hl, fun p hp => q _ _ L io (Stp.alloc hp) (sr.alloc hp) (VR.newL sr hp (r1.app r2))⟩))
      · cases e
  cases a with
  | int i =>
    cases b with
    | int j =>
      cases e; cases ra.vr rfl; cases rb.vr rfl
      exact .inl ⟨i, j, rfl, rfl, q _ H L io (Stp.refl ..) sr (.int _)⟩
    | _ => cases e
  | str i =>
    cases b with
    | str j =>
      simp only [addD] at e
      split at e
      · rename_i h
        cases e; cases ra.vr rfl; cases rb.vr rfl
        exact .inr (.inl ⟨i, j, rfl, rfl, h, q _ H L io (Stp.refl ..) sr (.str _)⟩)
      · cases e
    | _ => cases e
  | tup l =>
    cases b with
    | tup m =>
      simp only [addD] at e
      split at e
      · rename_i h
        cases e
        obtain ⟨p1, xs, rfl, s1, r1⟩ := (ra.vr rfl).tupS
        obtain ⟨p2, ys, rfl, s2, r2⟩ := (rb.vr rfl).tupS
        refine .inr (.inr (.inl ⟨p1, p2, xs, ys, rfl, rfl, s1, s2, by rw [r1.len, r2.len]; exact h, fun h0 => ?_, fun h0 h1 => ?_, fun _ _ p hp => ?_⟩))
        · have : l = [] := r1.nil_iff.mp h0
          subst this
          exact q _ H L io (Stp.refl ..) sr (rb.vr rfl)
        · have : m = [] := r2.nil_iff.mp h1
          subst this
          rw [List.append_nil] at q
          exact q _ H L io (Stp.refl ..) sr (ra.vr rfl)
        · exact q _ _ L io (Stp.alloc hp) (sr.alloc hp) (VR.newT sr hp (r1.app r2))
      · cases e
    | _ => cases e
  | lst l =>
    have e' : ((asH S b).bind fun m => if l.length + m.length ≤ sizeLine then some (Dv.lst (l ++ m), S) else none) = some (d, S') := by cases b <;> exact e
    exact lst l rfl e'
  | hdl k =>
    have e' : ((asH S (.hdl k)).bind fun l => (asH S b).bind fun m => if l.length + m.length ≤ sizeLine then some (Dv.lst (l ++ m), S) else none) = some (d, S') := by cases b <;> exact e
    cases h : asH S (.hdl k) with
    | none => rw [h] at e'; cases e'
    | some l => rw [h] at e'; exact lst l h e'
  | _ => cases e
theorem qe_add {X : Cx} {W : WX} {pos : Pos} {a b : Expr} {f1 f2 : DE} (ha : QX X W a f1) (hb : QX X W b f2) : QE X W (.BinOp a .Add b pos) (eBin addD f1 f2) := qe_op op_addA ops_add ha hb
mutual
def toP : Dv → Option PyData
  | .non => some .none
  | .bl b => some (.bool b)
  | .int i => some (.int i)
  | .str x => some (.str x)
  | .tup l => (toPs l).map .tuple
  | .lst l => (toPs l).map .list
  | .rol l => (toPs l).map .list
  | .dic _ => none
  | .obj _ _ => none
  | .hdl _ => none
  | .glo _ => none
  | .ty _ => none
  | .ext _ _ _ _ => none
def toPs : List Dv → Option (List PyData)
  | [] => some []
  | d :: l => (toP d).bind fun p => (toPs l).map fun ps => p :: ps
end
/-- handles as they stand now -/
def deref : Nat → Sto → Dv → Dv
  | 0, _, d => d
  | n + 1, S, .hdl k => match S[k]? with
    | some (.lst l) => .lst (l.map (deref n S))
    | some (.dct l) => .dic (l.map fun q => (q.1, deref n S q.2))
    | _ => .hdl k
  | n + 1, S, .tup l => .tup (l.map (deref n S))
  | n + 1, S, .lst l => .lst (l.map (deref n S))
  | n + 1, S, .rol l => .rol (l.map (deref n S))
  | n + 1, S, .dic l => .dic (l.map fun q => (q.1, deref n S q.2))
  | _ + 1, _, d => d
section
variable {K : Kw} {L : Addr → Prop} {io : List Addr} {H : Hp} {S : Sto}
mutual
theorem toP_ok : ∀ (d : Dv) (v : V) (p : PyData), VR K L io H v d → toP d = some p → Dp K H v p
  | .non, v, p, r, e => by cases r; cases e; exact .non
  | .bl b, v, p, r, e => by cases r; cases e; exact .bl b
  | .int b, v, p, r, e => by cases r; cases e; exact .int b
  | .str b, v, p, r, e => by cases r; cases e; exact .str b
  | .tup l, v, p, r, e => by
    obtain ⟨a, xs, rfl, s, t⟩ := r.tupS
    simp only [toP] at e
    cases q : toPs l with
    | none => rw [q] at e; cases e
    | some ps => rw [q] at e; cases e; exact .tup s (toPs_ok l xs ps t q)
  | .lst l, v, p, r, e => by
    simp only [toP] at e
    cases q : toPs l with
    | none => rw [q] at e; cases e
    | some ps =>
      rw [q] at e; cases e
      cases r with
      | lst n h t => exact .lst (SqL.of h) (toPs_ok l _ ps t q)
  | .rol l, v, p, r, e => by
    simp only [toP] at e
    cases q : toPs l with
    | none => rw [q] at e; cases e
    | some ps =>
      rw [q] at e; cases e
      cases r with
      | rol n h t => exact .lst (.inl h) (toPs_ok l _ ps t q)
      | rolK h t => exact .lst (h H) (toPs_ok l _ ps t q)
  | .dic k, v, p, r, e => by simp [toP] at e
  | .obj c k, v, p, r, e => by simp [toP] at e
  | .hdl k, v, p, r, e => by simp [toP] at e
  | .glo k, v, p, r, e => by simp [toP] at e
  | .ty k, v, p, r, e => by simp [toP] at e
  | .ext _ _ _ _, v, p, r, e => by simp [toP] at e
theorem toPs_ok : ∀ (l : List Dv) (vs : List V) (ps : List PyData), VRs K L io H vs l → toPs l = some ps → DpAll K H vs ps
  | [], vs, ps, r, e => by cases r; simp [toPs] at e; subst e; exact .nil
  | d :: l, vs, ps, r, e => by
    cases r with
    | cons h t =>
      simp only [toPs] at e
      cases q : toP d with
      | none => rw [q] at e; cases e
      | some p =>
        rw [q] at e
        cases q2 : toPs l with
        | none => rw [q2] at e; cases e
        | some ps' =>
          rw [q2] at e
          cases e
          exact .cons (toP_ok d _ p h q) (toPs_ok l _ ps' t q2)
end
theorem deref_all (n : Nat) (ih : ∀ (d : Dv) (v : V) (p : PyData), VR K L io H v d → toP (deref n S d) = some p → Dp K H v p) : ∀ (l : List Dv) (vs : List V) (ps : List PyData), VRs K L io H vs l → toPs (l.map (deref n S)) = some ps → DpAll K H vs ps
  | [], vs, ps, r, e => by cases r; simp [toPs] at e; subst e; exact .nil
  | d :: l, vs, ps, r, e => by
    cases r with
    | cons h t =>
      simp only [toPs, List.map_cons] at e
      cases q : toP (deref n S d) with
      | none => rw [q] at e; cases e
      | some p =>
        rw [q] at e
        cases q2 : toPs (l.map (deref n S)) with
        | none => rw [q2] at e; cases e
        | some ps' =>
          rw [q2] at e
          cases e
          exact .cons (ih d _ p h q) (deref_all n ih l _ ps' t q2)
theorem deref_dp (sr : SR K L io H S) : ∀ (n : Nat) (d : Dv) (v : V) (p : PyData), VR K L io H v d → toP (deref n S d) = some p → Dp K H v p
  | 0, d, v, p, r, e => toP_ok d v p r e
  | n + 1, .tup l, v, p, r, e => by
    obtain ⟨a, xs, rfl, s, t⟩ := r.tupS
    simp only [deref, toP] at e
    cases q : toPs (l.map (deref n S)) with
    | none => rw [q] at e; cases e
    | some ps => rw [q] at e; cases e; exact .tup s (deref_all n (deref_dp sr n) l xs ps t q)
  | n + 1, .lst l, v, p, r, e => by
    simp only [deref, toP] at e
    cases q : toPs (l.map (deref n S)) with
    | none => rw [q] at e; cases e
    | some ps =>
      rw [q] at e; cases e
      cases r with
      | lst nl h t => exact .lst (SqL.of h) (deref_all n (deref_dp sr n) l _ ps t q)
  | n + 1, .rol l, v, p, r, e => by
    simp only [deref, toP] at e
    cases q : toPs (l.map (deref n S)) with
    | none => rw [q] at e; cases e
    | some ps =>
      rw [q] at e; cases e
      cases r with
      | rol nl h t => exact .lst (.inl h) (deref_all n (deref_dp sr n) l _ ps t q)
      | rolK h t => exact .lst (h H) (deref_all n (deref_dp sr n) l _ ps t q)
  | n + 1, .hdl k, v, p, r, e => by
    cases q0 : S[k]? with
    | none => simp only [deref, q0, toP] at e; cases e
    | some o =>
      cases o with
      | lst l =>
        simp only [deref, q0, toP] at e
        cases q : toPs (l.map (deref n S)) with
        | none => rw [q] at e; cases e
        | some ps =>
          rw [q] at e; cases e
          cases r with
          | hdl hk =>
            obtain ⟨xs, h, t⟩ := sr.obj k _ _ hk q0
            exact .lst (SqL.of h) (deref_all n (deref_dp sr n) l xs ps t q)
      | dct l => simp only [deref, q0, toP] at e; cases e
      | ins c fs => simp only [deref, q0, toP] at e; cases e
      | ext _ _ _ => simp only [deref, q0, toP] at e; cases e
      | dcn _ => simp only [deref, q0, toP] at e; cases e
  | n + 1, .non, v, p, r, e => toP_ok _ v p r e
  | n + 1, .bl _, v, p, r, e => toP_ok _ v p r e
  | n + 1, .int _, v, p, r, e => toP_ok _ v p r e
  | n + 1, .str _, v, p, r, e => toP_ok _ v p r e
  | n + 1, .dic _, v, p, r, e => by simp [deref, toP] at e
  | n + 1, .obj _ _, v, p, r, e => toP_ok _ v p r e
  | n + 1, .glo _, v, p, r, e => toP_ok _ v p r e
  | n + 1, .ty _, v, p, r, e => toP_ok _ v p r e
  | n + 1, .ext _ _ _ _, v, p, r, e => toP_ok _ v p r e
/-- as a whole -/
def res (S : Sto) (d : Dv) : Dv := deref 40 S d
theorem res_dp (sr : SR K L io H S) {v : V} {d : Dv} {p : PyData} (r : VX K L io H v d) (e : toP (res S d) = some p) : Dp K H v p := by
  rcases r with r | ⟨a, o, rfl, rfl, np, ob⟩
  · exact deref_dp sr 40 d v p r e
  · cases o with
    | lst l =>
      simp only [vwO, res, deref, toP] at e
      cases q : toPs (l.map (deref 39 S)) with
      | none => rw [q] at e; cases e
      | some ps =>
        rw [q] at e; cases e
        obtain ⟨xs, h, t⟩ := ob
        exact .lst (SqL.of h) (deref_all 39 (deref_dp sr 39) l xs ps t q)
    | dct l => simp [vwO, res, deref, toP] at e
    | ins c fs => simp [vwO, res, deref, toP] at e
    | ext _ _ _ => simp [vwO, res, deref, toP] at e
    | dcn _ => simp [vwO, res, deref, toP] at e
end
/-- two lists of unlike lengths -/
def lenNe : Option (List Dv) → Option (List Dv) → Bool
  | some l, some m => l.length != m.length
  | _, _ => false
def deepE (S : Sto) (a b : Dv) : Option Bool := (toP (res S a)).bind fun p => (toP (res S b)).bind fun q => if SeqAt.shaped p && SeqAt.shaped q then some (PyData.eqv p q) else none
def eqD (S : Sto) : Dv → Dv → Option Bool
  | .str x, .str y => some (decide (x = y))
  | .int x, .int y => some (decide (x = y))
  | .bl x, .bl y => some (decide (x = y))
  | .non, .non => some true
  | .non, .int _ => some false
  | .non, .bl _ => some false
  | .non, .str _ => some false
  | .int _, .non => some false
  | .int _, .str _ => some false
  | .bl _, .non => some false
  | .bl _, .str _ => some false
  | .str _, .non => some false
  | .str _, .int _ => some false
  | .str _, .bl _ => some false
  | a, b => if lenNe (asL S a) (asL S b) then some false else deepE S a b
def eqE : Sto → Dv → Dv → Option (Dv × Sto) := fun S a b => (eqD S a b).map fun c => (.bl c, S)
def neE : Sto → Dv → Dv → Option (Dv × Sto) := fun S a b => (eqD S a b).map fun c => (.bl (!c), S)
/-- two lists of unlike lengths -/
def rLen (K : Kw) (b : Bool) : R2 := fun x y H Q => ∃ p q xs ys, x = .ref p ∧ y = .ref q ∧ SqL K H p xs ∧ SqL K H q ys ∧ xs.length ≠ ys.length ∧ Q (.bl b) H
theorem op_eqLen {X : Cx} (hu : X.A.units < cLine) : OpR X (compareOp .Eq) (rLen X.kw false) := by
  rintro pins s σ H x y v u Q I rx ry ⟨p, q, xs, ys, rfl, rfl, h1, h2, hl, z⟩
  cases rx; cases ry
  obtain ⟨its, r1, l1, _⟩ := I.list h1
  obtain ⟨its2, r2, l2, _⟩ := I.list h2
  refine SeqAt.eq_list_lengthsAt l1.isList l2.isList ?_ hu ⟨.bl _, H, I, rfl, z⟩
  rw [List.size_toArray, List.size_toArray, ← r1.length, ← r2.length]
  simpa using hl
theorem op_neLen {X : Cx} (hu : X.A.units < cLine) : OpR X (compareOp .NotEq) (rLen X.kw true) := by
  rintro pins s σ H x y v u Q I rx ry ⟨p, q, xs, ys, rfl, rfl, h1, h2, hl, z⟩
  cases rx; cases ry
  obtain ⟨its, r1, l1, _⟩ := I.list h1
  obtain ⟨its2, r2, l2, _⟩ := I.list h2
  refine SeqAt.RcNeAt.lists_lengths l1.isList l2.isList ?_ hu _ _ _ _ ⟨.bl _, H, I, rfl, z⟩
  rw [List.size_toArray, List.size_toArray, ← r1.length, ← r2.length]
  simpa using hl
def rEqA (K : Kw) : R2 := fun x y H Q => (rEq x y H Q ∨ rEqD K x y H Q) ∨ rLen K false x y H Q
def rNeA (K : Kw) : R2 := fun x y H Q => (rNe x y H Q ∨ rNeD K x y H Q) ∨ rLen K true x y H Q
theorem eqD_deep {S : Sto} {a b : Dv} {c : Bool} (e : eqD S a b = some c) : (∃ x y : V, scal x y = true ∧ c = decide (x = y) ∧ ∀ (K : Kw) L io H v w, VX K L io H v a → VX K L io H w b → v = x ∧ w = y) ∨ (∃ p q, toP (res S a) = some p ∧ toP (res S b) = some q ∧ SeqAt.shaped p = true ∧ SeqAt.shaped q = true ∧ c = PyData.eqv p q) ∨ ∃ l m, asL S a = some l ∧ asL S b = some m ∧ l.length ≠ m.length ∧ c = false := by
  have deep : (if lenNe (asL S a) (asL S b) then some false else deepE S a b) = some c → (∃ p q, toP (res S a) = some p ∧ toP (res S b) = some q ∧ SeqAt.shaped p = true ∧ SeqAt.shaped q = true ∧ c = PyData.eqv p q) ∨ ∃ l m, asL S a = some l ∧ asL S b = some m ∧ l.length ≠ m.length ∧ c = false := by
    intro e
    split at e
    · rename_i hl
      cases e
      cases h1 : asL S a with
      | none => rw [h1] at hl; cases hl
      | some l =>
        cases h2 : asL S b with
        | none => rw [h1, h2] at hl; cases hl
        | some m => rw [h1, h2] at hl; exact .inr ⟨l, m, rfl, rfl, by simpa [lenNe] using hl, rfl⟩
    · unfold deepE at e
      cases h1 : toP (res S a) with
      | none => rw [h1] at e; cases e
      | some p =>
        cases h2 : toP (res S b) with
        | none => rw [h1, h2] at e; cases e
        | some q =>
          rw [h1, h2] at e
          simp only [Option.bind_some] at e
          split at e
          · rename_i hs
            simp only [Bool.and_eq_true] at hs
            cases e
            exact .inl ⟨p, q, rfl, rfl, hs.1, hs.2, rfl⟩
          · cases e
  cases a <;> cases b <;> first
    | exact .inr (deep e)
    | (refine .inl ⟨_, _, ?_, ?_, fun K L io H v w r1 r2 => by cases r1.vr rfl; cases r2.vr rfl; exact ⟨rfl, rfl⟩⟩
       · rfl
       · cases e; first
          | rfl
          | (simp))
theorem ops_eq {K : Kw} : OpS K (rEqA K) eqE := by
  intro L io H S x y a b d S' Q sr ra rb e q
  unfold eqE at e
  cases h : eqD S a b with
  | none => rw [h] at e; cases e
  | some c =>
    rw [h] at e; cases e
    have fin := q (.bl c) H L io (Stp.refl ..) sr (.bl c)
    rcases eqD_deep h with ⟨x', y', h1, rfl, h3⟩ | ⟨p, p', h1, h2, h3, h4, rfl⟩ | ⟨l, m, h1, h2, h3, rfl⟩
    · obtain ⟨rfl, rfl⟩ := h3 K L io H x y ra rb
      exact .inl (.inl ⟨h1, fin⟩)
    · exact .inl (.inr ⟨p, p', res_dp sr ra h1, res_dp sr rb h2, h3, h4, fin⟩)
    · obtain ⟨p, xs, rfl, s1, t1⟩ := asL_x sr ra h1
      obtain ⟨q, ys, rfl, s2, t2⟩ := asL_x sr rb h2
      exact .inr ⟨p, q, xs, ys, rfl, rfl, s1, s2, by rw [t1.len, t2.len]; exact h3, fin⟩
theorem ops_ne {K : Kw} : OpS K (rNeA K) neE := by
  intro L io H S x y a b d S' Q sr ra rb e q
  unfold neE at e
  cases h : eqD S a b with
  | none => rw [h] at e; cases e
  | some c =>
    rw [h] at e; cases e
    have fin := q (.bl (!c)) H L io (Stp.refl ..) sr (.bl _)
    rcases eqD_deep h with ⟨x', y', h1, rfl, h3⟩ | ⟨p, p', h1, h2, h3, h4, rfl⟩ | ⟨l, m, h1, h2, h3, rfl⟩
    · obtain ⟨rfl, rfl⟩ := h3 K L io H x y ra rb
      exact .inl (.inl ⟨h1, fin⟩)
    · exact .inl (.inr ⟨p, p', res_dp sr ra h1, res_dp sr rb h2, h3, h4, fin⟩)
    · obtain ⟨p, xs, rfl, s1, t1⟩ := asL_x sr ra h1
      obtain ⟨q, ys, rfl, s2, t2⟩ := asL_x sr rb h2
      exact .inr ⟨p, q, xs, ys, rfl, rfl, s1, s2, by rw [t1.len, t2.len]; exact h3, fin⟩
section
variable {X : Cx} {W : WX} {pos : Pos} {a b : Expr} {f1 f2 : DE} {k : Nat}
theorem op_eqA (hr : Room k X.A) : OpR X (compareOp .Eq) (rEqA X.kw) := (op_eq.or (op_eqD hr.units)).or (op_eqLen hr.units0)
theorem op_neA (hr : Room k X.A) : OpR X (compareOp .NotEq) (rNeA X.kw) := (op_ne.or (op_neD hr.units)).or (op_neLen hr.units0)
theorem qe_eq (hr : Room k X.A) (ha : QX X W a f1) (hb : QX X W b f2) : QE X W (.Compare a [.Eq] [b] pos) (eBin eqE f1 f2) := qe_cmp (op_eqA hr) ops_eq ha hb
theorem qt_eq (hr : Room k X.A) (ha : QX X W a f1) (hb : QX X W b f2) : QT X W (.Compare a [.Eq] [b] pos) (tVal (eBin eqE f1 f2)) := qt_cmp (op_eqA hr) ops_eq ha hb
theorem qt_ne (hr : Room k X.A) (ha : QX X W a f1) (hb : QX X W b f2) : QT X W (.Compare a [.NotEq] [b] pos) (tVal (eBin neE f1 f2)) := qt_cmp (op_neA hr) ops_ne ha hb
end
def asQ (S : Sto) (d : Dv) : Option (List Dv) := match asT d with
  | some l => some l
  | none => asL S d
theorem asQ_x {K : Kw} {L : Addr → Prop} {io : List Addr} {H : Hp} {S : Sto} {v : V} {d : Dv} {l : List Dv} (s : SR K L io H S) (r : VX K L io H v d) (h : asQ S d = some l) : ∃ a xs, v = .ref a ∧ (SqL K H a xs ∨ SqT K H a xs) ∧ VRs K L io H xs l := by
  unfold asQ at h
  cases q : asT d with
  | some m =>
    rw [q] at h; cases h
    obtain ⟨a, xs, h1, h2, h3⟩ := asT_x r q
    exact ⟨a, xs, h1, .inr h2, h3⟩
  | none =>
    rw [q] at h
    obtain ⟨a, xs, h1, h2, h3⟩ := asL_x s r h
    exact ⟨a, xs, h1, .inl h2, h3⟩
def isD (neg : Bool) : Dv → Dv → Option Dv
  | a, .non => some (.bl (match a with
    | .non => !neg
    | _ => neg))
  | .bl x, .bl y => some (.bl (if neg then !decide (x = y) else decide (x = y)))
  | _, _ => none
theorem ops_is {K : Kw} : OpS K (fun x y H Q => (y = .non ∧ Q (.bl (decide (x = .non))) H) ∨ rIsB x y H Q) (pu2 (isD false)) := by
  intro L io H S x y a b d S' Q sr ra rb e q
  obtain ⟨e, rfl⟩ := pu2_ok e
  cases b with
  | non =>
    cases e; cases rb.vr rfl
    refine .inl ⟨rfl, ?_⟩
    have := q _ H L io (Stp.refl ..) sr (.bl _)
    rcases ra with ra | ⟨p, o, rfl, rfl, _⟩
    · cases ra <;> exact this
    · cases o <;> exact this
  | bl z =>
    cases a with
    | bl y =>
      cases e; cases ra.vr rfl; cases rb.vr rfl
      exact .inr ⟨y, z, rfl, rfl, q _ H L io (Stp.refl ..) sr (.bl _)⟩
    | _ => cases e
  | _ => cases a <;> cases e
theorem ops_isnot {K : Kw} : OpS K (fun x y H Q => (y = .non ∧ Q (.bl (!decide (x = .non))) H) ∨ rNotB x y H Q) (pu2 (isD true)) := by
  intro L io H S x y a b d S' Q sr ra rb e q
  obtain ⟨e, rfl⟩ := pu2_ok e
  cases b with
  | non =>
    cases e; cases rb.vr rfl
    refine .inl ⟨rfl, ?_⟩
    have := q _ H L io (Stp.refl ..) sr (.bl _)
    rcases ra with ra | ⟨p, o, rfl, rfl, _⟩
    · cases ra <;> exact this
    · cases o <;> exact this
  | bl z =>
    cases a with
    | bl y =>
      cases e; cases ra.vr rfl; cases rb.vr rfl
      exact .inr ⟨y, z, rfl, rfl, q _ H L io (Stp.refl ..) sr (.bl _)⟩
    | _ => cases e
  | _ => cases a <;> cases e
section
variable {X : Cx} {W : WX} {pos : Pos} {a b : Expr} {f1 f2 : DE}
theorem qt_is (ha : QX X W a f1) (hb : QX X W b f2) : QT X W (.Compare a [.Is] [b] pos) (tVal (eBin (pu2 (isD false)) f1 f2)) := qt_cmp (op_isN.or op_isBl) ops_is ha hb
theorem qt_isnot (ha : QX X W a f1) (hb : QX X W b f2) : QT X W (.Compare a [.IsNot] [b] pos) (tVal (eBin (pu2 (isD true)) f1 f2)) := qt_cmp (op_notN.or op_notBl) ops_isnot ha hb
end
end DL
namespace DL
open PySem L2
def truD (S : Sto) : Dv → Option Bool
  | .non => some false
  | .bl b => some b
  | .int i => some (i != 0)
  | .str x => if x.length ≤ sizeLine then some ((x.length : Int) != 0) else none
  | .tup l => some (!l.isEmpty)
  | .lst l => some (!l.isEmpty)
  | .rol l => some (!l.isEmpty)
  | .dic l => some (!l.isEmpty)
  | .hdl k => match S[k]? with
    | some (.lst l) => some (!l.isEmpty)
    | some (.dct l) => some (!l.isEmpty)
    | _ => none
  | _ => none
/-- a value's truth, of a locked dict, too -/
def TruW (K : Kw) (x : V) (H : Hp) (k : Bool) : Prop := TruV K x H k ∨ ∃ p kvs, x = .ref p ∧ Rd H p (.dK kvs) ∧ k = !kvs.isEmpty
theorem truW_ok {X : Cx} : TruR X (fun x H Q => ∃ k, TruW X.kw x H k ∧ Q k H) := by
  intro pins s σ H x v Q I rx ⟨k, e, q⟩
  rcases e with e | ⟨p, kvs, rfl, hx, rfl⟩
  · exact tru_ok pins s σ H x v Q I rx ⟨k, e, q⟩
  · cases rx
    have hl := line63
    have hs : sizeLine = 16777216 := sizeLine_eq
    obtain ⟨hz, hS, vs, r, m⟩ := dk_rd I.hok hx
    have hlen : kvs.length = vs.length := Paired.length r
    exact wpAny_truthy_dict hS m (by omega) ⟨H, I.tok _, by rw [isEmpty_kv r]; exact q⟩
open PySem.Spec PyProof.Rows in
theorem pt_truthW {X : Cx} {a : Expr} {ta : TE} (ha : PE X a ta) (he : ∀ whole, isTrue a X.env whole = (do let v ← whole; standAt a.pos; holding [v] (truthy v))) :
    PT X a (fun σ H Q => ta σ H fun x H' => ∃ k, TruW X.kw x H' k ∧ Q k H') := by
  refine ⟨fun pins s σ H Q I h => ?_⟩
  exact isTrue_plain (thn (ha.run pins s σ H _ I h) fun v s1 ⟨x, H1, I1, r1, q1⟩ => truW_ok pins s1 σ H1 x v Q I1 r1 q1) (he _)
section
variable {X : Cx} {a b : Expr} {ta tb : TE} {rest : List Expr} {pos : Pos}
def tOrW (K : Kw) (ta tb : TE) : TE := fun σ H Q => ta σ H fun x H1 => ∃ k, TruW K x H1 k ∧ if k = true then Q x H1 else tb σ H1 Q
def tAndW (K : Kw) (ta tb : TE) : TE := fun σ H Q => ta σ H fun x H1 => ∃ k, TruW K x H1 k ∧ if k = true then tb σ H1 Q else Q x H1
open PySem.Spec PyProof.Rows in
theorem pe_orW (ha : PE X a ta) (hb : PE X (.BoolOp .Or (b :: rest) pos) tb) : PE X (.BoolOp .Or (a :: b :: rest) pos) (tOrW X.kw ta tb) := by
  refine ⟨fun pins s σ H Q I h => ?_⟩
  refine BoolOp_or (thn (ha.run pins s σ H _ I h) fun v s1 ⟨x, H1, I1, r1, q1⟩ => ?_)
  obtain ⟨k, e, q1⟩ := q1
  refine thn (truW_ok pins s1 σ H1 x v (fun c H2 => c = k ∧ H2 = H1) I1 r1 ⟨k, e, rfl, rfl⟩) fun c s2 hc => ?_
  obtain ⟨H2, I2, e1, e2⟩ := hc
  rw [e2] at I2
  rw [← e1] at q1
  cases c with
  | true => exact ⟨x, H1, I2, r1, q1⟩
  | false => exact hb.run pins s2 σ H1 Q I2 q1
open PySem.Spec PyProof.Rows in
theorem pe_andW (ha : PE X a ta) (hb : PE X (.BoolOp .And (b :: rest) pos) tb) : PE X (.BoolOp .And (a :: b :: rest) pos) (tAndW X.kw ta tb) := by
  refine ⟨fun pins s σ H Q I h => ?_⟩
  refine BoolOp_and (thn (ha.run pins s σ H _ I h) fun v s1 ⟨x, H1, I1, r1, q1⟩ => ?_)
  obtain ⟨k, e, q1⟩ := q1
  refine thn (truW_ok pins s1 σ H1 x v (fun c H2 => c = k ∧ H2 = H1) I1 r1 ⟨k, e, rfl, rfl⟩) fun c s2 hc => ?_
  obtain ⟨H2, I2, e1, e2⟩ := hc
  rw [e2] at I2
  rw [← e1] at q1
  cases c with
  | true => exact hb.run pins s2 σ H1 Q I2 q1
  | false => exact ⟨x, H1, I2, r1, q1⟩
end
section
variable {K : Kw} {L : Addr → Prop} {io : List Addr} {H : Hp} {S : Sto}
theorem VRs.empty {vs : List V} {l : List Dv} (r : VRs K L io H vs l) : vs.isEmpty = l.isEmpty := by cases r <;> rfl
theorem PairR.len {α : Type} {R : V → Dv → Prop} : ∀ {l : List (α × V)} {m : List (α × Dv)}, PairR R l m → l.length = m.length
  | _, _, .nil => rfl
  | _, _, .cons _ t => by rw [List.length_cons, List.length_cons, PairR.len t]
theorem truD_ok0 (s : SR K L io H S) {v : V} {d : Dv} {b : Bool} (rx : VX K L io H v d) (hd : ∀ l, d ≠ .dic l) (e : truD S d = some b) : TruV K v H b := by
  have seq : ∀ {l : List Dv}, asL S d = some l → b = !l.isEmpty → TruV K v H b := fun h eb => by
    obtain ⟨a, xs, rfl, h1, h2⟩ := asL_x s rx h
    exact .inl ⟨xs, h1, by rw [h2.empty]; exact eb⟩
  cases d with
  | non => cases rx.vr rfl; cases e; rfl
  | bl => cases rx.vr rfl; cases e; rfl
  | int => cases rx.vr rfl; cases e; rfl
  | str x =>
    cases rx.vr rfl
    simp only [truD] at e
    split at e
    · rename_i h; cases e; exact ⟨h, rfl⟩
    · cases e
  | tup l =>
    obtain ⟨a, xs, rfl, h1, h2⟩ := (rx.vr rfl).tupS
    cases e
    exact .inr (.inl ⟨xs, h1, by rw [h2.empty]⟩)
  | lst l => cases e; exact seq rfl rfl
  | rol l => cases e; exact seq rfl rfl
  | dic l => exact absurd rfl (hd l)
  | hdl k =>
    have r := rx.vr rfl
    cases q : S[k]? with
    | none => simp [truD, q] at e
    | some o =>
      cases o with
      | lst l =>
        simp [truD, q] at e
        exact seq (l := l) (by simp [asL, q]) (by rw [e]; simp)
      | dct l =>
        simp [truD, q] at e
        cases r with
        | hdl hk =>
          obtain ⟨kvs, h1, h2⟩ := s.obj k _ _ hk q
          refine .inr (.inr ⟨kvs, h1, ?_⟩)
          have e2 : kvs.isEmpty = l.isEmpty := by cases h2 <;> rfl
          rw [e2, e]
          simp
      | ins => simp [truD, q] at e
      | ext => simp [truD, q] at e
      | dcn => simp [truD, q] at e
  | _ => simp [truD] at e
theorem truD_ok (s : SR K L io H S) {v : V} {d : Dv} {b : Bool} (rx : VX K L io H v d) (e : truD S d = some b) : TruW K v H b := by
  cases d with
  | dic l =>
    cases e
    rcases rx with r | ⟨p, o, rfl, h, np, ob⟩
    · cases r with
      | dic n h t =>
        refine .inr ⟨_, _, rfl, h, ?_⟩
        cases t <;> rfl
    · cases o with
      | dct m =>
        cases h
        obtain ⟨kvs, h1, h2⟩ := ob
        refine .inr ⟨p, kvs, rfl, .inl h1, ?_⟩
        cases h2 <;> rfl
      | _ => cases h
  | _ => exact .inl (truD_ok0 s rx (fun l z => nomatch z) e)
end
def truR (a : Dv) (S : Sto) : Res Bool := ofO ((truD S a).map fun b => (b, S))
def tTru (f : DE) : DT := fun e S => bnd (f e S) truR
theorem map_ok {α β : Type} {o : Option α} {f : α → β} {b : β} (h : o.map f = some b) : ∃ a, o = some a ∧ f a = b := by
  cases o with
  | none => cases h
  | some a => exact ⟨a, rfl, Option.some.inj h⟩
section
variable {X : Cx} {W : WX} {pos : Pos} {a b c : Expr} {f f1 f2 : DE} {t1 t2 : DT} {rest : List Expr}
theorem qt_tru (ha : QX X W a f) (he : ∀ whole, isTrue a X.env whole = (do let v ← whole; standAt a.pos; holding [v] (truthy v)) := by intro _; rfl) : QT X W a (tTru f) :=
  pt_imp (pt_truthW ha he) fun g H Q q => by
    refine Rdg.bind (R := VX X.kw) (k := fun _ => truR) q fun L0 io0 H0 L io H1 e S d v fr rv q => ?_
    obtain ⟨d, S', h1, h2⟩ := q.opt
    obtain ⟨b, h3, h4⟩ := map_ok h1
    cases h4
    exact ⟨_, truD_ok fr.st rv h3, h2 _ H1 L io (Stp.refl ..) fr.st rfl⟩
/-- and, or, not as tests -/
def tAnd' (t1 t2 : DT) : DT := fun e S => bnd (t1 e S) fun b S1 => if b then t2 e S1 else .ok false S1
def tOr' (t1 t2 : DT) : DT := fun e S => bnd (t1 e S) fun b S1 => if b then .ok true S1 else t2 e S1
def tNot' (t1 : DT) : DT := fun e S => bnd (t1 e S) fun b S1 => .ok (!b) S1
theorem rd_or {K : Kw} {g : St} {H : Hp} {Q : Bool → Hp → Prop} (q : rdt K W (tOr' t1 t2) g H Q) : tOr (rdt K W t1) (rdt K W t2) g H Q := by
  refine Rdg.bind (R := fun _ _ _ (v : Bool) d => v = d) (k := fun e b S1 => if b then .ok true S1 else t2 e S1) q fun L0 io0 H0 L io H1 e S d v fr rv q => ?_
  subst rv
  cases v with
  | true => exact (iteT (q.ok1 fr.st rfl))
  | false => exact (iteF (Fin.rdg fr q))
abbrev QW (X : Cx) (W : WX) (e : Expr) (f : DT) : Prop := PW X e (rdt X.kw W f)
theorem qw_or1 (ha : QT X W a t1) : QW X W (.BoolOp .Or [a] pos) t1 := pw_or1 ha
theorem qw_or (ha : QT X W a t1) (hb : QW X W (.BoolOp .Or (b :: rest) pos) t2) : QW X W (.BoolOp .Or (a :: b :: rest) pos) (tOr' t1 t2) := pw_imp (pw_or ha hb) fun _ _ _ q => rd_or q
theorem qt_w (h : QW X W a t1) : QT X W a t1 := PW.pt h
theorem qt_not (ha : QT X W a t1) : QT X W (.UnaryOp .Not a pos) (tNot' t1) := pt_imp (pt_not ha) fun g H Q q => by
  refine Rdg.bind (R := fun _ _ _ (v : Bool) d => v = d) (k := fun e b S1 => .ok (!b) S1) q fun L0 io0 H0 L io H1 e S d v fr rv q => ?_
  subst rv
  exact q.ok1 fr.st rfl
/-- a if t else b -/
def eIf (t : DT) (f1 f2 : DE) : DE := fun e S => bnd (t e S) fun b S1 => if b then f1 e S1 else f2 e S1
theorem qe_if (hc : QT X W c t1) (ha : QE X W a f1) (hb : QE X W b f2) : QE X W (.IfExp c a b pos) (eIf t1 f1 f2) := pe_imp (pe_ifExp hc ha hb) fun g H Q q => by
  refine Rdg.bind (R := fun _ _ _ (v : Bool) d => v = d) (k := fun e b S1 => if b then f1 e S1 else f2 e S1) q fun L0 io0 H0 L io H1 e S d v fr rv q => ?_
  subst rv
  cases v with
  | true => exact (iteT (Fin.rdg fr q))
  | false => exact (iteF (Fin.rdg fr q))
/-- and, or, not as values -/
def eAnd (f1 f2 : DE) : DE := fun e S => bnd (f1 e S) fun a S1 => bnd (truR a S1) fun k S2 => if k then f2 e S2 else .ok a S2
def eOr (f1 f2 : DE) : DE := fun e S => bnd (f1 e S) fun a S1 => bnd (truR a S1) fun k S2 => if k then .ok a S2 else f2 e S2
def eNot (f1 : DE) : DE := fun e S => bnd (f1 e S) fun a S1 => bnd (truR a S1) fun k S2 => .ok (.bl (!k)) S2
theorem Fin.tru {α' β' : Type} {K : Kw} {R' : (Addr → Prop) → List Addr → Hp → β' → α' → Prop} {g : St} {L : Addr → Prop} {io : List Addr} {H : Hp} {Q : β' → Hp → Prop} {k : Bool → Sto → Res α'} {a : Dv} {v : V} {S : Sto} (h : Fin K W R' g L io H Q (bnd (truR a S) k)) (sr : SR K L io H S) (r : VR K L io H v a) :
    ∃ b, TruW K v H b ∧ Fin K W R' g L io H Q (k b S) := by
  unfold truR at h
  cases q : truD S a with
  | none => rw [q] at h; exact h.elim
  | some b => rw [q] at h; exact ⟨b, truD_ok sr (.inl r) q, h⟩
theorem qe_one {op} (h : QE X W a f) : QE X W (.BoolOp op [a] pos) f := pe_one h
theorem qe_and (ha : QE X W a f1) (hb : QE X W (.BoolOp .And (b :: rest) pos) f2) : QE X W (.BoolOp .And (a :: b :: rest) pos) (eAnd f1 f2) := pe_imp (pe_andW ha hb) fun g H Q q => by
  refine Rdg.bind (R := VR X.kw) (k := fun e a S1 => bnd (truR a S1) fun k S2 => if k then f2 e S2 else .ok a S2) q fun L0 io0 H0 L io H1 e S d v fr rv q => ?_
  obtain ⟨k, h1, q⟩ := q.tru fr.st rv
  refine ⟨k, h1, ?_⟩
  cases k with
  | true => exact (iteT (Fin.rdg fr q))
  | false => exact (iteF (q.ok1 fr.st rv))
theorem qe_or (ha : QE X W a f1) (hb : QE X W (.BoolOp .Or (b :: rest) pos) f2) : QE X W (.BoolOp .Or (a :: b :: rest) pos) (eOr f1 f2) := pe_imp (pe_orW ha hb) fun g H Q q => by
  refine Rdg.bind (R := VR X.kw) (k := fun e a S1 => bnd (truR a S1) fun k S2 => if k then .ok a S2 else f2 e S2) q fun L0 io0 H0 L io H1 e S d v fr rv q => ?_
  obtain ⟨k, h1, q⟩ := q.tru fr.st rv
  refine ⟨k, h1, ?_⟩
  cases k with
  | true => exact (iteT (q.ok1 fr.st rv))
  | false => exact (iteF (Fin.rdg fr q))
variable {es : List Expr} {fa : DA}
def aNil : DA := fun _ S => .ok [] S
def aCons (f : DE) (fa : DA) : DA := fun e S => bnd (f e S) fun d S1 => bnd (fa e S1) fun l S2 => .ok (d :: l) S2
theorem qa_nil : QA X W [] aNil := pa_imp pa_nil fun g H Q q => by
  obtain ⟨L0, io0, H0, L, io, e, S, fr, q⟩ := q
  exact q.ok1 fr.st .nil
theorem qa_cons (ha : QE X W a f) (hr : QA X W es fa) (hs : starEach (a :: es) X.env = (false, eval a X.env) :: starEach es X.env := by rfl) : QA X W (a :: es) (aCons f fa) := pa_imp (pa_cons ha hr hs) fun g H Q q => by
  refine Rdg.bind (R := VR X.kw) (k := fun e d S1 => bnd (fa e S1) fun l S2 => .ok (d :: l) S2) q fun L0 io0 H0 L io H1 e S d v fr rv q => ?_
  refine Fin.bind (R := VRs X.kw) (k := fun l S2 => .ok (d :: l) S2) fr q fun L2 io2 H2 S2 l w s2 fr2 rw2 q => ?_
  exact q.ok1 fr2.st (.cons (rv.step s2 fr.st.sub) rw2)
def tupR (l : List Dv) (S : Sto) : Res Dv := if l.length ≤ sizeLine then .ok (.tup l) S else .no
def lstR (l : List Dv) (S : Sto) : Res Dv := if l.length ≤ sizeLine then .ok (.lst l) S else .no
def eTup (fa : DA) : DE := fun e S => bnd (fa e S) tupR
def eLst (fa : DA) : DE := fun e S => bnd (fa e S) lstR
theorem qe_tup {x1} (h : QA X W es fa) : QE X W (.Tuple es x1 pos) (eTup fa) := pe_imp (pe_tup h) fun g H Q q => by
  refine Rdg.bind (R := VRs X.kw) (k := fun e => tupR) q fun L0 io0 H0 L io H1 e S d v fr rv q => ?_
  unfold tupR at q
  split at q
  · rename_i hl
    exact ⟨by rw [rv.len]; exact hl, fun p hp => q _ _ L io (Stp.alloc hp) (fr.st.alloc hp) (VR.newT fr.st hp rv)⟩
  · exact q.elim
end
section
variable {X : Cx} {W : WX} {a : Expr} {es : List Expr} {f : DE} {fa : DA}
theorem qxs_nil : QXs X W [] aNil := pa_imp pa_nil fun g H Q q => by
  obtain ⟨L0, io0, H0, L, io, e, S, fr, h⟩ := q
  exact h [] H L io (Stp.refl ..) fr.st .nil
theorem VXs.step {K : Kw} {L L' : Addr → Prop} {io io' : List Addr} {H H' : Hp} : ∀ {vs : List V} {l : List Dv}, VXs K L io H vs l → Stp L io H L' io' H' → (∀ x ∈ io, L x) → VXs K L' io' H' vs l
  | _, _, .nil, _, _ => .nil
  | _, _, .cons h t, s, sub => .cons (h.step s sub) (t.step s sub)
theorem qxs_cons (ha : QX X W a f) (hr : QXs X W es fa) (hs : starEach (a :: es) X.env = (false, eval a X.env) :: starEach es X.env := by rfl) : QXs X W (a :: es) (aCons f fa) := pa_imp (pa_cons ha hr hs) fun g H Q q => by
  refine Rdg.bind (R := VX X.kw) (k := fun e d S1 => bnd (fa e S1) fun l S2 => .ok (d :: l) S2) q fun L0 io0 H0 L io H1 e S d v fr rv q => ?_
  refine Fin.bind (R := VXs X.kw) (k := fun l S2 => .ok (d :: l) S2) fr q fun L2 io2 H2 S2 l vs s2 fr2 rvs q => ?_
  exact q.ok1 fr2.st (.cons (rv.step s2 fr.st.sub) rvs)
end
def CaS (K : Kw) (r : List V → Hp → VK → Prop) (h : Sto → List Dv → Option (Dv × Sto)) : Prop :=
  ∀ (L : Addr → Prop) (io : List Addr) (H : Hp) (S : Sto) (xs : List V) (l : List Dv) (d : Dv) (S' : Sto) (Q : VK), SR K L io H S → VXs K L io H xs l → h S l = some (d, S') →
    (∀ (v : V) (H' : Hp) (L' : Addr → Prop) (io' : List Addr), Stp L io H L' io' H' → SR K L' io' H' S' → VR K L' io' H' v d → Q v H') → r xs H Q
def eCB (h : Sto → List Dv → Option (Dv × Sto)) (fa : DA) : DE := fun e S => bnd (fa e S) fun l S1 => ofO (h S1 l)
theorem rd_cb {K : Kw} {W : WX} {r : List V → Hp → VK → Prop} {h : Sto → List Dv → Option (Dv × Sto)} {fa : DA} (hc : CaS K r h) {g : St} {H : Hp} {Q : VK} (q : rd K W (eCB h fa) g H Q) : tCB r (Rdg K W (VXs K) fa) g H Q := by
  refine Rdg.bind (R := VXs K) (k := fun _ l S1 => ofO (h S1 l)) q fun L0 io0 H0 L io H1 e S l v fr rv q => ?_
  obtain ⟨d, S', h1, h2⟩ := q.opt
  exact hc L io H1 S v l d S' Q fr.st rv h1 h2
section
variable {X : Cx} {W : WX} {pos p : Pos} {e : Expr} {es : List Expr} {fa : DA} {r : List V → Hp → VK → Prop} {h : Sto → List Dv → Option (Dv × Sto)} {x : Str} {id T : String}
theorem qe_callB (hc : CallR X (.builtin id) r) (hs : CaS X.kw r h) (hm : X.mg x = none) (hv : bootBuiltins x = some (.builtin id)) (ha : QXs X W (e :: es) fa) (hg : Gl X x := by rfl) (hn : x ≠ "__name__" := by decide) (hdb : (x == ("__debug__" : Str)) = false := by decide)
    (he : starEach (e :: es) X.env = (false, eval e X.env) :: starEach es X.env := by rfl) (hpl : (backTo pos (starEach es X.env)).any (·.1) = false := by rfl) : QE X W (.Call (.Name x p) (e :: es) [] pos) (eCB h fa) :=
  pe_imp (pe_callB hc hg hm hv ha hn hdb he hpl) fun _ _ _ q => rd_cb hs q
theorem qe_callTy (hc : CallR X (.type T) r) (hs : CaS X.kw r h) (hm : X.mg x = none) (hv : bootBuiltins x = some (.type T)) (ha : QXs X W (e :: es) fa) (hg : Gl X x := by rfl) (hn : x ≠ "__name__" := by decide) (hdb : (x == ("__debug__" : Str)) = false := by decide)
    (he : starEach (e :: es) X.env = (false, eval e X.env) :: starEach es X.env := by rfl) (hpl : (backTo pos (starEach es X.env)).any (·.1) = false := by rfl) : QE X W (.Call (.Name x p) (e :: es) [] pos) (eCB h fa) :=
  pe_imp (pe_callTy hc hg hm hv ha hn hdb he hpl) fun _ _ _ q => rd_cb hs q
end
def lenD (S : Sto) : List Dv → Option (Dv × Sto)
  | [.str x] => if x.length ≤ sizeLine then some (.int x.length, S) else none
  | [d] => (asQ S d).map fun l => (.int l.length, S)
  | _ => none
theorem cas_len {K : Kw} : CaS K (fun xs H Q => ∃ x n, xs = [x] ∧ LenV K x H n ∧ Q (.int n) H) lenD := by
  intro L io H S xs l d S' Q sr rv e q
  cases rv with
  | nil => cases e
  | cons r t =>
    cases t with
    | cons r2 t2 => rename_i dd _ _ _ _; cases dd <;> cases e
    | nil =>
      rename_i v dd
      have seq : (asQ S dd).map (fun l => ((.int l.length : Dv), S)) = some (d, S') → ∃ x n, [v] = [x] ∧ LenV K x H n ∧ Q (.int n) H := by
        intro e
        obtain ⟨l, h1, h2⟩ := map_ok e
        cases h2
        obtain ⟨a, xs, rfl, hs, t⟩ := asQ_x sr r h1
        have fin := q (.int l.length) H L io (Stp.refl ..) sr (.int _)
        refine ⟨_, l.length, rfl, ?_, fin⟩
        rcases hs with hs | hs
        · exact .inl ⟨xs, hs, t.len.symm⟩
        · exact .inr ⟨xs, hs, t.len.symm⟩
      cases dd with
      | str x =>
        simp only [lenD] at e
        split at e
        · rename_i h
          cases e; cases r.vr rfl
          exact ⟨_, x.length, rfl, ⟨h, rfl⟩, q _ H L io (Stp.refl ..) sr (.int _)⟩
        · cases e
      | _ => exact seq e
/-- abs, int -/
def absD (S : Sto) : List Dv → Option (Dv × Sto)
  | [.int i] => some (.int (if i < 0 then -i else i), S)
  | _ => none
theorem cas_abs {K : Kw} : CaS K (fun xs H Q => ∃ i, xs = [.int i] ∧ Q (.int (if i < 0 then -i else i)) H) absD := by
  intro L io H S xs l d S' Q sr rv e q
  cases rv with
  | nil => cases e
  | cons r t =>
    cases t with
    | cons r2 t2 => rename_i dd _ _ _ _; cases dd <;> cases e
    | nil =>
      rename_i v dd
      cases dd with
      | int i => cases r.vr rfl; cases e; exact ⟨i, rfl, q _ H L io (Stp.refl ..) sr (.int _)⟩
      | _ => cases e
/-- list(x), tuple(x) -/
def listD (S : Sto) : List Dv → Option (Dv × Sto)
  | [d] => (asQ S d).map fun l => (.lst l, S)
  | _ => none
theorem cas_list {K : Kw} : CaS K (fun xs H Q => ∃ p ys, xs = [.ref p] ∧ (SqL K H p ys ∨ SqT K H p ys) ∧ ∀ l, H l = none → Q (.ref l) (upd H l (.lst ys))) listD := by
  intro L io H S xs l d S' Q sr rv e q
  cases rv with
  | nil => cases e
  | cons r t =>
    cases t with
    | cons r2 t2 => cases e
    | nil =>
      obtain ⟨l, h1, h2⟩ := map_ok e
      cases h2
      obtain ⟨a, xs, rfl, hs, t⟩ := asQ_x sr r h1
      exact ⟨a, xs, rfl, hs, fun p hp => q _ _ L io (Stp.alloc hp) (sr.alloc hp) (VR.newL sr hp t)⟩
def tupleD (S : Sto) : List Dv → Option (Dv × Sto)
  | [d] => (asQ S d).map fun l => (.tup l, S)
  | _ => none
theorem cas_tuple {K : Kw} : CaS K (fun xs H Q => ∃ p ys, xs = [.ref p] ∧ ((SqL K H p ys ∧ ∀ l, H l = none → Q (.ref l) (upd H l (.tup ys))) ∨ (SqT K H p ys ∧ Q (.ref p) H))) tupleD := by
  intro L io H S xs l d S' Q sr rv e q
  cases rv with
  | nil => cases e
  | cons r t =>
    cases t with
    | cons r2 t2 => cases e
    | nil =>
      rename_i v dd
      obtain ⟨l, h1, h2⟩ := map_ok e
      cases h2
      unfold asQ at h1
      cases h : asT dd with
      | some m =>
        rw [h] at h1; cases h1
        obtain ⟨a, xs, rfl, hs, t⟩ := asT_x r h
        cases dd with
        | tup m' => cases h; exact ⟨a, xs, rfl, .inr ⟨hs, q _ H L io (Stp.refl ..) sr (r.vr rfl)⟩⟩
        | _ => cases h
      | none =>
        rw [h] at h1
        obtain ⟨a, xs, rfl, hs, t⟩ := asL_x sr r h1
        exact ⟨a, xs, rfl, .inl ⟨hs, fun p hp => q _ _ L io (Stp.alloc hp) (sr.alloc hp) (VR.newT sr hp t)⟩⟩
end DL
namespace DL
open PySem L2
def tyD (S : Sto) : Dv → Option String
  | .non => some "NoneType"
  | .bl _ => some "bool"
  | .int _ => some "int"
  | .str _ => some "str"
  | .tup _ => some "tuple"
  | .lst _ => some "list"
  | .rol _ => some "list"
  | .dic _ => some "dict"
  | .hdl k => match S[k]? with
    | some (.lst _) => some "list"
    | some (.dct _) => some "dict"
    | _ => none
  | _ => none
def tysOf : List Dv → Option (List String)
  | [] => some []
  | .ty c :: r => (tysOf r).map fun l => c :: l
  | _ => none
def kitS (t : String) : List String → Option Bool
  | [] => some false
  | c :: r => match kitB t c with
    | some true => some true
    | some false => kitS t r
    | none => none
def kitD (t : String) (cs : List Dv) : Option Bool := (tysOf cs).bind fun l => kitS t l
def isiD (S : Sto) : List Dv → Option (Dv × Sto)
  | [d, .ty c] => (tyD S d).bind fun t => (kitB t c).map fun b => (.bl b, S)
  | [d, .tup cs] => (tyD S d).bind fun t => (kitD t cs).map fun b => (.bl b, S)
  | _ => none
section
variable {K : Kw} {L : Addr → Prop} {io : List Addr} {H : Hp} {S : Sto}
theorem sqT_K {a : Addr} {xs : List V} (h : ∀ H', SqT K H' a xs) : ∃ o, K.lookup a = some o ∧ o.cls = .type "tuple" := by
  rcases h (fun _ => none) with (h | ⟨o, h⟩) | ⟨o, its, n, h1, h2, _⟩
  · cases h
  · cases h
  · exact ⟨o, h1, h2⟩
theorem sqL_K {a : Addr} {xs : List V} (h : ∀ H', SqL K H' a xs) : ∃ o, K.lookup a = some o ∧ o.cls = .type "list" := by
  rcases h (fun _ => none) with (h | ⟨o, h⟩) | ⟨o, its, n, h1, h2, _⟩
  · cases h
  · cases h
  · exact ⟨o, h1, h2⟩
theorem tyD_ok0 (s : SR K L io H S) {v : V} {d : Dv} {t : String} (r : VR K L io H v d) (e : tyD S d = some t) : TyX K H v (.type t) := by
  cases r with
  | non => cases e; exact .base .non
  | bl b => cases e; exact .base (.bl b)
  | int b => cases e; exact .base (.int b)
  | str b => cases e; exact .base (.str b)
  | tup n h _ => cases e; exact .base (.tup h)
  | tupK h _ => cases e; obtain ⟨o, h1, h2⟩ := sqT_K h.1; exact .kTuple h1 h2
  | lst n h _ => cases e; exact .base (.lst h)
  | rol n h _ =>
    cases e
    rcases h with h | ⟨o, h⟩
    · exact .base (.lst h)
    · exact .base (.frz h)
  | rolK h _ => cases e; obtain ⟨o, h1, h2⟩ := sqL_K h; exact .kList h1 h2
  | dic n h _ =>
    cases e
    rcases h with h | ⟨o, h⟩
    · exact .base (.dK h)
    · exact .fDict h
  | hdl hk =>
    rename_i a k
    cases q : S[k]? with
    | none => simp [tyD, q] at e
    | some o =>
      cases o with
      | lst l => simp [tyD, q] at e; subst e; obtain ⟨xs, h, _⟩ := s.obj k _ _ hk q; exact .base (.lst h)
      | dct l => simp [tyD, q] at e; subst e; obtain ⟨xs, h, _⟩ := s.obj k _ _ hk q; exact .base (.dK h)
      | ins c fs => simp [tyD, q] at e
      | ext => simp [tyD, q] at e
      | dcn => simp [tyD, q] at e
  | _ => cases e
theorem tyD_ok (s : SR K L io H S) {v : V} {d : Dv} {t : String} (r : VX K L io H v d) (e : tyD S d = some t) : TyX K H v (.type t) := by
  rcases r with r | ⟨p, o, rfl, rfl, np, ob⟩
  · exact tyD_ok0 s r e
  · cases o with
    | lst l => cases e; obtain ⟨xs, h, _⟩ := ob; exact .base (.lst h)
    | dct l => cases e; obtain ⟨xs, h, _⟩ := ob; exact .base (.dK h)
    | ins c fs => cases e
    | ext => cases e
    | dcn => cases e
theorem tysOf_ok : ∀ {cs : List Dv} {vs : List V} {l : List String}, VRs K L io H vs cs → tysOf cs = some l → Paired ClsV vs (l.map Value.type)
  | _, _, _, .nil, e => by cases e; exact .nil
  | _, _, l, .cons r rs, e => by
    cases r with
    | ty c =>
      simp only [tysOf] at e
      obtain ⟨l', h1, rfl⟩ := map_ok e
      exact .cons (.ty c) (tysOf_ok rs h1)
    | _ => cases e
theorem kitS_ok {t : String} : ∀ {l : List String} {b : Bool}, kitS t l = some b → PySem.W.kitAny K (.type t) (l.map Value.type) = some b
  | [], _, e => e
  | c :: l, b, e => by
    simp only [kitS] at e
    cases q : kitB t c with
    | none => rw [q] at e; cases e
    | some z =>
      rw [q] at e
      have hz := kit_ty (K := K) q
      simp only [List.map_cons, PySem.W.kitAny, hz]
      cases z with
      | true => exact e
      | false => exact kitS_ok e
end
def rIsiA (K : Kw) : List V → Hp → VK → Prop := fun xs H Q => rIsi K xs H Q ∨ rIsiT K xs H Q ∨ rIsiK K xs H Q
theorem CallR.or {X : Cx} {f : Value} {r r' : List V → Hp → VK → Prop} (h : CallR X f r) (h' : CallR X f r') : CallR X f (fun x H Q => r x H Q ∨ r' x H Q) := by
  intro pins s g H xs us Q I rv q
  rcases q with q | q
  · exact h pins s g H xs us Q I rv q
  · exact h' pins s g H xs us Q I rv q
theorem cas_isi {K : Kw} : CaS K (rIsiA K) isiD := by
  intro L io H S xs l d S' Q sr rv e q
  cases rv with
  | nil => cases e
  | cons r t =>
    cases t with
    | nil => cases e
    | cons r2 t2 =>
      cases t2 with
      | cons r3 t3 => rename_i d2 _ _ _ _; cases d2 <;> cases e
      | nil =>
        rename_i v dd w cc
        have r2x := r2
        clear r2
        have hcv : isV cc = false := by
          cases cc <;> first | rfl | (simp [isiD] at e)
        cases r2x.vr hcv with
        | ty c =>
          simp only [isiD] at e
          cases h : tyD S dd with
          | none => rw [h] at e; cases e
          | some ty =>
            rw [h] at e
            obtain ⟨b, h1, h2⟩ := map_ok e
            cases h2
            exact .inl ⟨v, .ty c, .type ty, .type c, b, rfl, .ty c, tyD_ok sr r h, kit_ty h1, q _ H L io (Stp.refl ..) sr (.bl _)⟩
        | tup n ht ts =>
          simp only [isiD] at e
          cases h : tyD S dd with
          | none => rw [h] at e; cases e
          | some ty =>
            rw [h] at e
            obtain ⟨b, h1, h2⟩ := map_ok e
            cases h2
            unfold kitD at h1
            rename_i ds
            cases h3 : tysOf ds with
            | none => rw [h3] at h1; cases h1
            | some l =>
              rw [h3] at h1
              exact .inr (.inl ⟨v, _, _, .type ty, _, b, rfl, ht, tysOf_ok ts h3, tyD_ok sr r h, kitS_ok h1, q _ H L io (Stp.refl ..) sr (.bl _)⟩)
        | tupK ht ts =>
          simp only [isiD] at e
          cases h : tyD S dd with
          | none => rw [h] at e; cases e
          | some ty =>
            rw [h] at e
            obtain ⟨b, h1, h2⟩ := map_ok e
            cases h2
            unfold kitD at h1
            rename_i a xs ds
            cases h3 : tysOf ds with
            | none => rw [h3] at h1; cases h1
            | some l =>
              rw [h3] at h1
              rcases ht.1 (fun _ => none) with (ht | ⟨o, ht⟩) | ⟨⟨oc, od, dt, sl⟩, its, n, e1, e2, e3, _, rv⟩
              · cases ht
              · cases ht
              · simp only at e2 e3
                subst e2 e3
                have ei := ClsV.all (tysOf_ok ts h3) rv
                exact .inr (.inr ⟨v, a, od, its.toList, n, sl, .type ty, b, rfl, by simpa using e1, tyD_ok sr r h, by rw [ei]; exact kitS_ok h1, q _ H L io (Stp.refl ..) sr (.bl _)⟩)
        | _ => cases e
section
variable {K : Kw} {L : Addr → Prop} {io : List Addr} {H : Hp} {S : Sto}
theorem VRs.atI {vs : List V} {l : List Dv} {i : Int} {d : Dv} (r : VRs K L io H vs l) (h : L2.atI l i = some d) : ∃ v, L2.atI vs i = some v ∧ VR K L io H v d := by
  unfold L2.atI at h ⊢
  rw [r.len]
  cases q : ixN l.length i with
  | none => rw [q] at h; cases h
  | some j =>
    rw [q] at h
    obtain ⟨v, h1, h2⟩ := r.get (i := j) h
    exact ⟨v, h1, h2⟩
def cutG {α : Type} (xs : List α) (lo hi : Option Int) : List α := (xs.drop (HT.sIx xs.length 0 lo)).take (HT.sIx xs.length xs.length hi - HT.sIx xs.length 0 lo)
theorem VRs.cut {vs : List V} {l : List Dv} {lo hi : Option Int} (r : VRs K L io H vs l) : VRs K L io H (cutV vs lo hi) (cutG l lo hi) := by
  unfold cutV cutG
  rw [r.len]
  exact (r.drop _).take _
end
def ixD (S : Sto) (d i : Dv) : Option (Dv × Sto) := match i with
  | .int i => (match d with
    | .str z => if z.length ≤ sizeLine then (atI z.cps.toList i).map fun c => (.str ⟨#[c]⟩, S) else none
    | _ => (asQ S d).bind fun l => (atI l i).map fun x => (x, S))
  | _ => none
theorem ops_ix {K : Kw} : OpS K (rIx K) ixD := by
  intro L io H S x y a b d S' Q sr ra rb e q
  cases b with
  | int i =>
    cases rb.vr rfl
    have seq : ((asQ S a).bind fun l => (atI l i).map fun x => (x, S)) = some (d, S') → rIx K x (.int i) H Q := by
      intro e
      cases h : asT a with
      | some l =>
        have h' : asQ S a = some l := by unfold asQ; rw [h]
        rw [h'] at e
        obtain ⟨z, h1, h2⟩ := map_ok e
        cases h2
        obtain ⟨p, xs, rfl, hs, t⟩ := asT_x ra h
        obtain ⟨v, h3, h4⟩ := t.atI h1
        exact .inr (.inl ⟨p, xs, i, v, rfl, rfl, hs, h3, q _ H L io (Stp.refl ..) sr h4⟩)
      | none =>
        have h' : asQ S a = asL S a := by unfold asQ; rw [h]
        rw [h'] at e
        cases h5 : asL S a with
        | none => rw [h5] at e; cases e
        | some l =>
          rw [h5] at e
          obtain ⟨z, h1, h2⟩ := map_ok e
          cases h2
          obtain ⟨p, xs, rfl, hs, t⟩ := asL_x sr ra h5
          obtain ⟨v, h3, h4⟩ := t.atI h1
          exact .inl ⟨p, xs, i, v, rfl, rfl, hs, h3, q _ H L io (Stp.refl ..) sr h4⟩
    cases a with
    | str z =>
      simp only [ixD] at e
      split at e
      · rename_i hz
        obtain ⟨c, h1, h2⟩ := map_ok e
        cases h2; cases ra.vr rfl
        exact .inr (.inr ⟨z, i, c, rfl, rfl, hz, h1, q _ H L io (Stp.refl ..) sr (.str _)⟩)
      · cases e
    | _ => exact seq e
  | _ => cases e
theorem qe_ix {X : Cx} {W : WX} {pos : Pos} {a b : Expr} {f1 f2 : DE} (ha : QX X W a f1) (hb : QX X W b f2) (hs : PlainIx b := by exact fun _ _ => rfl) : QE X W (.Subscript a b pos) (eBin ixD f1 f2) := pe_imp (pe_ix ix_seq ha hb hs) fun _ _ _ q => rd_bin ops_ix q
/-- a[lo:hi] -/
abbrev DO := Env → Sto → Res (Option Int)
def rdo (K : Kw) (W : WX) (f : DO) : TO := Rdg K W (fun _ _ _ (v : Option Int) d => v = d) f
abbrev QO (X : Cx) (W : WX) (e : Option Expr) (f : DO) : Prop := PO X e (rdo X.kw W f)
theorem po_imp {X : Cx} {e : Option Expr} {t t' : TO} (h : PO X e t) (i : ∀ g H Q, t' g H Q → t g H Q) : PO X e t' := ⟨fun pins s g H Q I q => h.run pins s g H Q I (i g H Q q)⟩
def oNone : DO := fun _ S => .ok none S
def oInt : Dv → Sto → Res (Option Int)
  | .int i, S => .ok (some i) S
  | _, _ => .no
def oSome (f : DE) : DO := fun e S => bnd (f e S) oInt
def cutD (S : Sto) (d : Dv) (lo hi : Option Int) : Option (Dv × Sto) := match d with
  | .str z => if z.length ≤ sizeLine then some (.str (cutS z lo hi), S) else none
  | .tup l => some (.tup (cutG l lo hi), S)
  | _ => (asL S d).map fun l => (.lst (cutG l lo hi), S)
def eCut (f : DE) (lo hi : DO) : DE := fun e S => bnd (f e S) fun d S1 => bnd (lo e S1) fun l S2 => bnd (hi e S2) fun h S3 => ofO (cutD S3 d l h)
section
variable {X : Cx} {W : WX} {pos p2 : Pos} {a : Expr} {lo hi : Option Expr} {f : DE} {fl fh : DO}
theorem qo_none : QO X W none oNone := po_imp po_none fun g H Q q => by
  obtain ⟨L0, io0, H0, L, io, e, S, fr, q⟩ := q
  exact q.ok1 fr.st rfl
theorem qo_some (h : QE X W a f) : QO X W (some a) (oSome f) := po_imp (po_some h) fun g H Q q => by
  refine Rdg.bind (R := VR X.kw) (k := fun _ => oInt) q fun L0 io0 H0 L io H1 e S a v fr ra q => ?_
  cases ra with
  | int b => exact ⟨_, rfl, q.ok1 fr.st rfl⟩
  | _ => exact q.elim
theorem cutG_whole {α : Type} {l : List α} {lo hi : Option Int} (h : HT.sIx l.length 0 lo = 0 ∧ HT.sIx l.length l.length hi = l.length) : cutG l lo hi = l := by
  unfold cutG
  rw [h.1, h.2]
  simp
theorem qe_cut (he : QX X W a f) (hl : QO X W lo fl) (hh : QO X W hi fh) : QE X W (.Subscript a (.Slice lo hi none p2) pos) (eCut f fl fh) := pe_imp (pe_slice (sl_list.or (sl_tupA.or sl_str)) he hl hh) fun g H Q q => by
  refine Rdg.bind (R := VX X.kw) (k := fun e d S1 => bnd (fl e S1) fun l S2 => bnd (fh e S2) fun h S3 => ofO (cutD S3 d l h)) q fun L0 io0 H0 L io H1 e S d v fr rv q => ?_
  refine Fin.bind (R := fun _ _ _ (v : Option Int) d => v = d) (k := fun l S2 => bnd (fh e S2) fun h S3 => ofO (cutD S3 d l h)) fr q fun L2 io2 H2 S2 l w s2 fr2 rw2 q => ?_
  subst rw2
  refine Fin.bind (R := fun _ _ _ (v : Option Int) d => v = d) (k := fun h S3 => ofO (cutD S3 d w h)) fr2 q fun L3 io3 H3 S3 h w2 s3 fr3 rw3 q => ?_
  subst rw3
  have r := (rv.step s2 fr.st.sub).step s3 fr2.st.sub
  obtain ⟨d', S', h1, h2⟩ := q.opt
  have lst : (asL S3 d).map (fun l => (Dv.lst (cutG l w w2), S3)) = some (d', S') → rSlL X.kw v w w2 H3 Q := by
    intro e
    obtain ⟨l, h3, h4⟩ := map_ok e
    cases h4
    obtain ⟨p, xs, rfl, hs, t⟩ := asL_x fr3.st r h3
    exact ⟨p, xs, rfl, hs, fun p hp => h2 _ _ L3 io3 (Stp.alloc hp) (fr3.st.alloc hp) (VR.newL fr3.st hp t.cut)⟩
  cases d with
  | str z =>
    simp only [cutD] at h1
    split at h1
    · rename_i hz
      cases h1; cases r.vr rfl
      exact .inr (.inr ⟨z, rfl, hz, h2 _ H3 L3 io3 (Stp.refl ..) fr3.st (.str _)⟩)
    · cases h1
  | tup l =>
    cases h1
    obtain ⟨p, xs, rfl, hs, t⟩ := (r.vr rfl).tupS
    refine .inr (.inl ⟨p, xs, rfl, hs, fun hw => ?_, fun hw p hp => ?_⟩)
    · rw [t.len] at hw
      rw [cutG_whole hw] at h2
      exact h2 _ H3 L3 io3 (Stp.refl ..) fr3.st (r.vr rfl)
    · exact h2 _ _ L3 io3 (Stp.alloc hp) (fr3.st.alloc hp) (VR.newT fr3.st hp t.cut)
  | _ => exact .inl (lst h1)
end
structure RoomG (k : Nat) (A : Around) : Prop where
  r : Room k A
  g : A.guards = some []
theorem RoomG.mono {j k : Nat} {A : Around} (h : RoomG k A) (hj : j ≤ k) : RoomG j A := ⟨h.r.mono hj, h.g⟩
theorem RoomG.deeper {k : Nat} {A : Around} (h : RoomG (k + 1) A) (v : PySem.Env) : RoomG k (A.deeper v) := ⟨h.r.deeper v, h.g⟩
theorem RoomG.in1 {k : Nat} {A : Around} (h : RoomG (k + 1) A) : RoomG k A.in1 := ⟨h.r.in1, h.g⟩
theorem RoomG.low {k : Nat} {A : Around} (h : RoomG (k + 1) A) : RoomG k A := h.mono (Nat.le_succ k)
/-- what a def promises: as FnOk, at calls without a guard; what it raises lies as L2.CX says -/
structure FnG (P : Program) (w : World) (K : Kw) (mg : Str → Option Value) (base : Heap) (k : Nat) (f : Addr) (fd : FuncData) (ps : List Str) (sp : Sp) : Prop where
  len : ∀ vs H Q E, sp vs H Q E → vs.length = ps.length
  run : ∀ (A : Around) (up : List PySem.Env) (s : Shared) (H : Hp) (args : Args) (us : List Value) (vs : List V) (Q : VK) (E : XK), RoomG k A → Env0 P w K mg base A up s H → BindsTo s fd args (ps.zip us) → Vals vs us → sp vs H Q E →
    codeAny (model P w) A (.call (.ref f) args) (CR (L2.CX P w) up P w H s Q E) s
theorem FnG.mono {P : Program} {w : World} {K : Kw} {mg : Str → Option Value} {base : Heap} {j k : Nat} {f : Addr} {fd : FuncData} {ps : List Str} {sp : Sp} (F : FnG P w K mg base j f fd ps sp) (h : j ≤ k) : FnG P w K mg base k f fd ps sp :=
  ⟨F.len, fun A up s H args us vs Q E hr => F.run A up s H args us vs Q E (hr.mono h)⟩
/-- a promise that nobody can ask -/
theorem FnG.never {P : Program} {w : World} {K : Kw} {mg : Str → Option Value} {base : Heap} {k : Nat} {f : Addr} {fd : FuncData} {ps : List Str} {sp : Sp} (h : ∀ vs H Q E, ¬ sp vs H Q E) : FnG P w K mg base k f fd ps sp :=
  ⟨fun vs H Q E z => (h vs H Q E z).elim, fun _ _ _ H _ _ vs Q E _ _ _ _ z => (h vs H Q E z).elim⟩
theorem takesW0 {X : Cx} : Takes X (fun _ _ _ _ => False) := fun _ _ ⟨_, _, _, _, _, _, _, _, _, _, _, _, _, _, _, _, z⟩ => z.elim
section
variable {X : Cx} {W : WX} {k : Nat} {f : Addr} {fd : FuncData} {ps : List Str} {sp : Sp} {dvs : List V} {ds : List Value}
/-- the callee of any rule runs -/
theorem run_g {pins : List (Addr × Obj)} {g : St} {H : Hp} {s : Shared} {Q : VK} {us : List Value} {vs : List V} (F : FnG X.prog X.w X.kw X.mg X.base k f fd ps sp) (hr : RoomG k X.A) (hb : Binds X.kw fd ps ds) (hd : Vals dvs ds) (tk : Takes X W)
    (I : Inv X pins g H s) (r : Vals vs us) (h : sp (vs ++ dvs) H Q (fun c d H' => W c d g H')) : wpAny (model X.prog X.w) X.A (call (.ref f) us) (EP X pins g Q) X.xe s := by
  have r2 := r.append hd
  have hl : (us ++ ds).length = ps.length := by
    rw [← r2.length]
    exact F.len _ _ _ _ h
  refine wpAny_call (codeAny_mono (F.run X.A X.stack s H ⟨us, []⟩ _ _ Q _ hr I.env0 (hb s us I.kIn hl) r2 h) fun rr s' z => ?_)
  match rr, z with
  | .error e, z => exact tk e s' (XE.of_call I (fun _ _ _ q => q) z)
  | .ok (.ret u), z => exact I.after z
  | .ok .next, z => exact z.elim
  | .ok .brk, z => exact z.elim
  | .ok .cont, z => exact z.elim
end
def Lx (L : Addr → Prop) (io : List Addr) : Addr → Prop := fun a => L a ∨ a ∈ io
abbrev DF := Sto → List Dv → Res Dv
/-- a def's promise: called with such data in such a store it gives g's answer -/
def spD (K : Kw) (g : DF) : Sp := fun vs H Q E => ∃ (L : Addr → Prop) (io : List Addr) (S : Sto) (l : List Dv), SR K L io H S ∧ VRs K L io H vs l ∧ match g S l with
  | .ok d S' => ∀ (v : V) (H' : Hp) (io' : List Addr), Stp L io H (Lx L io') io' H' → SR K (Lx L io') io' H' S' → VR K (Lx L io') io' H' v d → Q v H'
  | .ex c fs S' => ∀ (x : Option Addr) (H' : Hp) (io' : List Addr), Stp L io H (Lx L io') io' H' → SR K (Lx L io') io' H' S' → ExR K (Lx L io') io' H' x fs → E (.ref (He.ga K c)) x H'
  | .no => False
/-- the answer of none -/
def gNo : DF := fun _ _ => .no
theorem spD_no {K : Kw} : ∀ vs H Q E, ¬ spD K gNo vs H Q E := fun _ _ _ _ ⟨_, _, _, _, _, _, z⟩ => z
/-- a def's promise from what is wished behind it -/
theorem spD_fin {K : Kw} {W : WX} {g : DF} {st : St} {L : Addr → Prop} {io : List Addr} {H : Hp} {S : Sto} {vs : List V} {l : List Dv} {Q : VK} (sr : SR K L io H S) (r : VRs K L io H vs l) (q : Fin K W (VR K) st L io H Q (g S l)) : spD K g vs H Q (fun c d H' => W c d st H') := by
  refine ⟨L, io, S, l, sr, r, ?_⟩
  cases h : g S l with
  | ok d S' => rw [h] at q; exact fun v H' io' s sr r => q v H' _ io' s sr r
  | ex c fs S' => rw [h] at q; exact fun v H' io' s sr r => q v H' _ io' s sr r
  | no => rw [h] at q; exact q
/-- the def that the module's name x stands for answers as g; dl: the data of the defaults that a call without them takes -/
def FD (P : Program) (w : World) (K : Kw) (mg : Str → Option Value) (base : Heap) (k : Nat) (x : Str) (g : DF) : Prop :=
  ∃ (f : Addr) (fd : FuncData) (ps : List Str), FnG P w K mg base k f fd ps (spD K g) ∧ mg x = some (.ref f) ∧ f = He.ga K x ∧ PySem.W.keepIn K (.ref f) = true ∧ Binds K fd ps []
def eCall (g : DF) (fa : DA) : DE := fun e S => bnd (fa e S) fun l S1 => g S1 l
section
variable {X : Cx} {W : WX} {k i : Nat} {x : Str} {g : DF} {p pos : Pos} {e : Expr} {es : List Expr} {fa : DA}
theorem qe_call (F : FD X.prog X.w X.kw X.mg X.base k x g) (hr : RoomG (k + 1) X.A) (tk : Takes X W) (ha : QA X W (e :: es) fa) (hg : Gl X x := by rfl) (hdb : (x == ("__debug__" : Str)) = false := by decide) (he : starEach (e :: es) X.env = (false, eval e X.env) :: starEach es X.env := by rfl) (hpl : (backTo pos (starEach es X.env)).any (·.1) = false := by rfl) :
    QE X W (.Call (.Name x p) (e :: es) [] pos) (eCall g fa) := by
  obtain ⟨f, fd, ps, F, hm, _, hk, hb⟩ := F
  refine ⟨fun pins s st H Q I q => wpAny_Call_Name_kw (ld_glob I hg hm ?_ hdb)⟩
  refine PySem.W.callWith_K (h₀ := X.base) I.ok.mod.kin hk (thn (ha.run pos pins s st H (fun vs H1 => spD X.kw g vs H1 Q fun c d H' => W c d st H') I ?_) fun us s1 ⟨vs, H1, I1, r, q⟩ => ⟨I1.kIn, run_g F hr.low hb .nil tk I1 r (by rw [List.append_nil]; exact q)⟩) he hpl
  exact Rdg.bind (R := VRs X.kw) (k := fun _ l S1 => g S1 l) q fun L0 io0 H0 L io H1 e S l v fr rv q => spD_fin fr.st rv q
/-- fits(..), fits a name of this def that stands for a def of the module; t: what the defs answer -/
def eCallL (t : Str → Option DF) (i : Nat) (fa : DA) : DE := fun e S => match e[i]? with
  | some (.va (.glo x)) => match t x with
    | some g => bnd (fa e S) fun l S1 => g S1 l
    | none => .no
  | _ => .no
end
end DL
namespace DL
open PySem L2
structure Stw (L : Addr → Prop) (io : List Addr) (H : Hp) (L' : Addr → Prop) (io' : List Addr) (H' : Hp) : Prop where
  pre : ∃ more, io' = io ++ more
  new : ∀ a, L' a → L a ∨ H a = none
  keep : ∀ a o, H a = some o → ¬ L a → H' a = some o
section
variable {K : Kw} {L L1 L2 L' : Addr → Prop} {io io1 io2 io' : List Addr} {H H1 H2 H' : Hp} {S : Sto}
theorem Stw.refl (L : Addr → Prop) (io : List Addr) (H : Hp) : Stw L io H L io H := ⟨⟨[], by simp⟩, fun _ h => .inl h, fun _ _ h _ => h⟩
theorem Stp.stw (s : Stp L io H L' io' H') (sub : ∀ x ∈ io, L x) : Stw L io H L' io' H' := ⟨s.pre, s.new, fun a o h n => s.keep a o h fun z => n (sub a z)⟩
theorem Stw.trans (a : Stw L io H L1 io1 H1) (b : Stw L1 io1 H1 L2 io2 H2) : Stw L io H L2 io2 H2 where
  pre := by
    obtain ⟨m, rfl⟩ := a.pre
    obtain ⟨m1, rfl⟩ := b.pre
    exact ⟨m ++ m1, by simp⟩
  new := fun x h => by
    rcases b.new x h with h1 | h1
    · exact a.new x h1
    · cases e : H x with
      | none => exact .inr rfl
      | some o =>
        by_cases hl : L x
        · exact .inl hl
        · rw [a.keep x o e hl] at h1; cases h1
  keep := fun x o h n => b.keep x o (a.keep x o h n) fun z => by
    rcases a.new x z with q | q
    · exact n q
    · rw [q] at h; cases h
theorem Stw.on (s : Stw L io H L' io' H') : (∀ (k : Nat) (a : Addr), io[k]? = some a → io'[k]? = some a) ∧ (∀ a o, H a = some o → ¬ L a → H' a = some o ∧ ¬ L' a) := by
  refine ⟨fun k a h => ?_, fun a o h nl => ⟨s.keep a o h nl, fun z => ?_⟩⟩
  · obtain ⟨m, rfl⟩ := s.pre
    exact io_keep h
  · rcases s.new a z with q | q
    · exact nl q
    · rw [q] at h; cases h
theorem VR.stw {v : V} {d : Dv} (h : VR K L io H v d) (s : Stw L io H L' io' H') : VR K L' io' H' v d := VR.on s.on.1 s.on.2 h
theorem VRs.stw {v : List V} {d : List Dv} (h : VRs K L io H v d) (s : Stw L io H L' io' H') : VRs K L' io' H' v d := VRs.on s.on.1 s.on.2 h
/-- a volatile thing that is no handle's is changed -/
theorem SR.mut {p : Addr} {o : HO} (s : SR K L io H S) (hp : L p) (hn : p ∉ io) : SR K L io (upd H p o) S where
  len := s.len
  nd := s.nd
  sub := s.sub
  dom := fun a ha => by
    by_cases e : a = p
    · rw [e, upd_same]; exact fun z => nomatch z
    · rw [upd_ne e]; exact s.dom a ha
  obj := fun k a ob h1 h2 => (s.obj k a ob h1 h2).mono (fun u e => by rw [upd_ne (fun z => hn (by rw [← z]; exact List.mem_of_getElem? h1))]; exact e) fun v d r => r.mut hp
theorem Stw.mut {p : Addr} {o : HO} (hp : L p) : Stw L io H L io (upd H p o) := ⟨⟨[], by simp⟩, fun _ h => .inl h, fun a u e n => by rw [upd_ne (fun z => n (by rw [z]; exact hp))]; exact e⟩
/-- a new thing, volatile from now on -/
def Ly (L : Addr → Prop) (p : Addr) : Addr → Prop := fun a => L a ∨ a = p
def Lz (L : Addr → Prop) (p : Addr) : Addr → Prop := fun a => L a ∧ a ≠ p
theorem Stp.newV {p : Addr} {o : HO} (hp : H p = none) : Stp L io H (Ly L p) io (upd H p o) :=
  ⟨⟨[], by simp⟩, fun _ h => .inl h, fun a h => h.elim .inl fun e => .inr (by rw [e]; exact hp), fun a u e _ => by rw [upd_ne (ne_of_none e hp)]; exact e, fun _ h => .inl h⟩
theorem SR.newV {p : Addr} {o : HO} (s : SR K L io H S) (hp : H p = none) : SR K (Ly L p) io (upd H p o) S where
  len := s.len
  nd := s.nd
  sub := fun a h => .inl (s.sub a h)
  dom := fun a ha => by
    by_cases e : a = p
    · rw [e, upd_same]; exact fun z => nomatch z
    · rw [upd_ne e]; exact s.dom a (ha.elim id fun z => absurd z e)
  obj := fun k a ob h1 h2 => (s.obj k a ob h1 h2).mono (fun u e => by rw [upd_ne (ne_of_none e hp)]; exact e) fun v d r => r.step (Stp.newV hp) s.sub
/-- fewer volatile things -/
theorem SR.less (s : SR K L io H S) (hl : ∀ a, L' a → L a) (sub : ∀ a ∈ io, L' a) : SR K L' io H S :=
  ⟨s.len, s.nd, sub, fun a h => s.dom a (hl a h), fun k a o h1 h2 => (s.obj k a o h1 h2).mono (fun _ e => e) fun v d r => r.less hl⟩
end
/-- a new list l stands at p (H: the heap ahead of the piece) -/
def NewL (K : Kw) (H : Hp) (L' : Addr → Prop) (io' : List Addr) (H' : Hp) (v : V) (l : List Dv) : Prop := ∃ p xs, v = .ref p ∧ H p = none ∧ L' p ∧ p ∉ io' ∧ H' p = some (.lst xs) ∧ VRs K L' io' H' xs l
abbrev DL := Env → Sto → Res (List Dv)
def FinF (K : Kw) (W : WX) (g : St) (L : Addr → Prop) (io : List Addr) (H : Hp) (Q : V → Hp → Prop) : Res (List Dv) → Prop
  | .ok d S' => ∀ (v : V) (H' : Hp) (L' : Addr → Prop) (io' : List Addr), Stp L io H L' io' H' → SR K L' io' H' S' → NewL K H L' io' H' v d → Q v H'
  | .ex c fs S' => ∀ (x : Option Addr) (H' : Hp) (L' : Addr → Prop) (io' : List Addr), Stp L io H L' io' H' → SR K L' io' H' S' → ExR K L' io' H' x fs → W (.ref (He.ga K c)) x g H'
  | .no => False
def rdF (K : Kw) (W : WX) (f : DL) : TE := fun g H Q => ∃ (L0 : Addr → Prop) (io0 : List Addr) (H0 : Hp) (L : Addr → Prop) (io : List Addr) (e : Env) (S : Sto), FR K L0 io0 H0 L io H g e S ∧ FinF K W g L io H Q (f e S)
abbrev QF (X : Cx) (W : WX) (e : Expr) (f : DL) : Prop := PE X e (rdF X.kw W f)
def eFrz (f : DL) : DE := fun e S => bnd (f e S) fun l S' => .ok (.lst l) S'
theorem rd_frz {K : Kw} {W : WX} {f : DL} {g : St} {H : Hp} {Q : VK} (q : rd K W (eFrz f) g H Q) : rdF K W f g H Q := by
  obtain ⟨L0, io0, H0, L, io, e, S, fr, q⟩ := q
  refine ⟨L0, io0, H0, L, io, e, S, fr, ?_⟩
  have q : Fin K W (VR K) g L io H Q (bnd (f e S) fun l S' => .ok (.lst l) S') := q
  cases hf : f e S with
  | no => rw [hf] at q; exact q
  | ex c fs S' => rw [hf] at q; exact q
  | ok l S' =>
    rw [hf] at q
    intro v H' L' io' s sr ⟨p, xs, hv, hp, lp, np, h1, h2⟩
    subst hv
    have hl : ∀ a, Lz L' p a → L' a := fun a z => z.1
    refine q _ H' (Lz L' p) io' ⟨s.pre, s.hn, fun a z => s.new a z.1, s.keep, fun a z => ⟨s.up a z, fun e => fr.st.dom a z (by rw [e]; exact hp)⟩⟩ (sr.less hl fun a ha => ⟨sr.sub a ha, fun e => np (by rw [← e]; exact ha)⟩) (.lst (fun z => z.2 rfl) h1 (h2.less hl))
theorem qe_frz {X : Cx} {W : WX} {a : Expr} {f : DL} (h : QF X W a f) : QE X W a (eFrz f) := pe_imp h fun g H Q q => rd_frz q
section
variable {X : Cx} {W : WX} {pos : Pos} {es : List Expr} {fa : DA}
def fLst (fa : DA) : DL := fun e S => bnd (fa e S) fun l S1 => if l.length ≤ sizeLine then .ok l S1 else .no
theorem FinF.bind {α β : Type} {K : Kw} {R : (Addr → Prop) → List Addr → Hp → β → α → Prop} {f : Env → Sto → Res α} {k : α → Sto → Res (List Dv)} {g : St} {L0 L : Addr → Prop} {io0 io : List Addr} {H0 H : Hp} {e : Env} {S : Sto} {Q : V → Hp → Prop} {P : β → Hp → Prop}
    (fr : FR K L0 io0 H0 L io H g e S) (h : FinF K W g L io H Q (bnd (f e S) k))
    (n : ∀ (L1 : Addr → Prop) (io1 : List Addr) (H1 : Hp) (S1 : Sto) (a : α) (v : β), Stp L io H L1 io1 H1 → FR K L0 io0 H0 L1 io1 H1 g e S1 → R L1 io1 H1 v a → FinF K W g L1 io1 H1 Q (k a S1) → P v H1) : Rdg K W R f g H P := by
  refine ⟨L0, io0, H0, L, io, e, S, fr, ?_⟩
  cases hf : f e S with
  | ok a S1 =>
    rw [hf] at h
    intro v H1 L1 io1 s1 sr1 r1
    have h : FinF K W g L io H Q (k a S1) := h
    refine n L1 io1 H1 S1 a v s1 (fr.step s1 sr1) r1 ?_
    cases hk : k a S1 with
    | ok l S2 =>
      rw [hk] at h
      intro v H' L' io' s2 sr2 ⟨p, xs, e1, e2, e3⟩
      refine h v H' L' io' (s1.trans s2 fr.st.sub) sr2 ⟨p, xs, e1, ?_, e3⟩
      rcases s1.back e2 with z | z
      · exact absurd e2 (sr1.dom p (s1.up p (fr.st.sub p z)))
      · exact z
    | ex c fs S2 =>
      rw [hk] at h
      exact fun v H' L' io' s2 sr r2 => h v H' L' io' (s1.trans s2 fr.st.sub) sr r2
    | no => rw [hk] at h; exact h
  | ex c fs S1 => rw [hf] at h; exact h
  | no => rw [hf] at h; exact h
theorem FinF.new {K : Kw} {g : St} {L : Addr → Prop} {io : List Addr} {H : Hp} {S : Sto} {Q : V → Hp → Prop} {l : List Dv} {xs : List V} (h : FinF K W g L io H Q (.ok l S)) (sr : SR K L io H S) (r : VRs K L io H xs l) : ∀ p, H p = none → Q (.ref p) (upd H p (.lst xs)) := fun p hp =>
  h _ _ (Ly L p) io (Stp.newV hp) (sr.newV hp) ⟨p, xs, rfl, hp, .inr rfl, fun z => sr.dom p (sr.sub p z) hp, upd_same, r.step (Stp.newV hp) sr.sub⟩
theorem qf_lst (h : QA X W es fa) : QF X W (.List es pos) (fLst fa) := pe_imp (pe_lst h) fun g H Q q => by
  obtain ⟨L0, io0, H0, L, io, e, S, fr, q⟩ := q
  refine FinF.bind (R := VRs X.kw) (k := fun l S1 => if l.length ≤ sizeLine then .ok l S1 else .no) fr q fun L1 io1 H1 S1 l vs s1 fr1 r1 q => ?_
  split at q
  · rename_i hl
    exact ⟨by rw [r1.len]; exact hl, q.new fr1.st r1⟩
  · exact q.elim
end
end DL
namespace DL
open PySem L2
section
variable {K : Kw} {L0 L : Addr → Prop} {io0 io : List Addr} {H0 H : Hp} {g : St} {e : Env} {S : Sto} {i : Nat}
theorem set_get {α : Type} {l : List α} {i j : Nat} {a b : α} (h : (l.set i a)[j]? = some b) : (j = i ∧ b = a ∧ i < l.length) ∨ (j ≠ i ∧ l[j]? = some b) := by
  rw [List.getElem?_set] at h
  by_cases e : i = j
  · rw [if_pos e] at h
    split at h
    · cases h; exact .inl ⟨e.symm, rfl, by omega⟩
    · cases h
  · rw [if_neg e] at h
    exact .inr ⟨fun z => e z.symm, h⟩
theorem set_ne {α : Type} {l : List α} {i j : Nat} {a : α} (h : j ≠ i) : (l.set i a)[j]? = l[j]? := by
  rw [List.getElem?_set, if_neg (fun z => h z.symm)]
theorem set_at {α : Type} {l : List α} {i : Nat} {a : α} (h : i < l.length) : (l.set i a)[i]? = some a := by
  rw [List.getElem?_set, if_pos rfl, if_pos h]
/-- a slot gets another content, of which the frame's facts hold -/
theorem FR.setS (f : FR K L0 io0 H0 L io H g e S) (i : Nat) {x : Option V} {s : Sl}
    (hva : ∀ d, s = .va d → ∃ v, x = some v ∧ VR K L io H v d)
    (how : ∀ o, s = .own o → ∃ p, x = some (.ref p) ∧ L p ∧ p ∉ io ∧ H0 p = none ∧ ObR K L io H p o)
    (hinj : ∀ p, (∀ d, s ≠ .va d) → s ≠ .no → x = some (.ref p) → ∀ j, j ≠ i → (∀ d, e[j]? ≠ some (.va d)) → e[j]? ≠ some .no → g[j]? ≠ some (some (.ref p))) :
    FR K L0 io0 H0 L io H (g.set i x) (e.set i s) S where
  st := f.st
  len := by rw [List.length_set, List.length_set]; exact f.len
  va := fun j d h => by
    rcases set_get h with ⟨rfl, h1, h2⟩ | ⟨h1, h2⟩
    · obtain ⟨v, rfl, r⟩ := hva d h1.symm
      exact ⟨v, set_at (by rw [f.len]; exact h2), r⟩
    · obtain ⟨v, r1, r2⟩ := f.va j d h2
      exact ⟨v, by rw [set_ne h1]; exact r1, r2⟩
  own := fun j o h => by
    rcases set_get h with ⟨rfl, h1, h2⟩ | ⟨h1, h2⟩
    · obtain ⟨p, rfl, r⟩ := how o h1.symm
      exact ⟨p, set_at (by rw [f.len]; exact h2), r⟩
    · obtain ⟨p, r1, r2⟩ := f.own j o h2
      exact ⟨p, by rw [set_ne h1]; exact r1, r2⟩
  inj := fun j k p hjk v1 v2 n1 n2 h1 h2 => by
    have lg : ∀ {j : Nat} {z : Option V}, (g.set i x)[j]? = some z → j < e.length := fun {j z} h => by
      have := (List.getElem?_eq_some_iff.mp h).1
      rw [List.length_set, f.len] at this
      exact this
    by_cases ej : j = i
    · subst ej
      have ek : k ≠ j := fun z => hjk z.symm
      have hl := lg h1
      rw [set_at hl] at v1 n1
      rw [set_ne ek] at v2 n2 h2
      rw [set_at (by rw [f.len]; exact hl)] at h1
      exact hinj p (fun d z => v1 d (by rw [z])) (fun z => n1 (by rw [z])) (Option.some.inj h1) k ek v2 n2 h2
    · by_cases ek : k = i
      · subst ek
        have hl := lg h2
        rw [set_at hl] at v2 n2
        rw [set_ne ej] at v1 n1 h1
        rw [set_at (by rw [f.len]; exact hl)] at h2
        exact hinj p (fun d z => v2 d (by rw [z])) (fun z => n2 (by rw [z])) (Option.some.inj h2) j ej v1 n1 h1
      · rw [set_ne ej] at v1 n1 h1
        rw [set_ne ek] at v2 n2 h2
        exact f.inj j k p hjk v1 v2 n1 n2 h1 h2
  en := f.en
  sub0 := f.sub0
  dom0 := f.dom0
theorem FR.setV (f : FR K L0 io0 H0 L io H g e S) (i : Nat) {v : V} {d : Dv} (r : VR K L io H v d) : FR K L0 io0 H0 L io H (g.set i (some v)) (e.set i (.va d)) S :=
  f.setS i (fun d' h => by cases h; exact ⟨v, rfl, r⟩) (fun l h => by cases h) (fun p h => absurd rfl (h d))
theorem FR.setN (f : FR K L0 io0 H0 L io H g e S) (i : Nat) (x : Option V) : FR K L0 io0 H0 L io H (g.set i x) (e.set i .no) S :=
  f.setS i (fun d' h => by cases h) (fun l h => by cases h) (fun p _ h => absurd rfl h)
/-- a volatile thing that no slot of its own holds is changed -/
theorem FR.mutD (f : FR K L0 io0 H0 L io H g e S) {p : Addr} {o : HO} (lp : L p) (np : p ∉ io) (h0 : H0 p = none)
    (hne : ∀ (i : Nat) (q : Addr), (∀ d, e[i]? ≠ some (.va d)) → e[i]? ≠ some .no → e[i]? ≠ none → g[i]? = some (some (.ref q)) → q ≠ p) : FR K L0 io0 H0 L io (upd H p o) g e S where
  st := f.st.mut lp np
  len := f.len
  va := fun i d h => by
    obtain ⟨v, h1, h2⟩ := f.va i d h
    exact ⟨v, h1, h2.mut lp⟩
  own := fun i o h => by
    obtain ⟨q, h1, h2, h3, h4, h5⟩ := f.own i o h
    have : q ≠ p := hne i q (by rw [h]; intro d z; cases z) (by rw [h]; intro z; cases z) (by rw [h]; intro z; cases z) h1
    exact ⟨q, h1, h2, h3, h4, ObR.mono (o := o) h5 (fun u h => by rw [upd_ne this]; exact h) fun v d r => r.mut lp⟩
  inj := f.inj
  en := ⟨f.en.pre, f.en.hn, f.en.new, fun a u h n => by rw [upd_ne (ne_of_none h h0)]; exact f.en.keep a u h n, f.en.up⟩
  sub0 := f.sub0
  dom0 := f.dom0
/-- what a slot of its own holds stands in the heap -/
theorem FR.ownAt (f : FR K L0 io0 H0 L io H g e S) {i : Nat} {q : Addr} (h1 : ∀ d, e[i]? ≠ some (.va d)) (h2 : e[i]? ≠ some .no) (h3 : e[i]? ≠ none) (hg : g[i]? = some (some (.ref q))) : ∃ o, H q = some o ∧ L q := by
  cases h : e[i]? with
  | none => exact absurd h h3
  | some s =>
    cases s with
    | no => exact absurd h h2
    | va d => exact absurd h (h1 d)
    | own o =>
      obtain ⟨p, e1, e2, _, _, e3⟩ := f.own i o h
      rw [hg] at e1
      cases e1
      obtain ⟨u, e4⟩ := ObR.has (o := o) e3
      exact ⟨_, e4, e2⟩
theorem FR.fresh0 (f : FR K L0 io0 H0 L io H g e S) {p : Addr} (h : H p = none) : H0 p = none := by
  rcases f.en.back h with z | z
  · exact absurd h (f.st.dom p (f.en.up p (f.sub0 p z)))
  · exact z
def wipeE (e : Env) : List Nat → Env
  | [] => e
  | v :: vs => (wipeE e vs).set v .no
theorem FR.wipe (f : FR K L0 io0 H0 L io H g e S) : ∀ vs : List Nat, FR K L0 io0 H0 L io H (L2.wipe g vs) (wipeE e vs) S
  | [] => f
  | v :: vs => (FR.wipe f vs).setN v none
end
theorem wipe_get (g : St) : ∀ (vs : List Nat) (k : Nat), (L2.wipe g vs)[k]? = if k ∈ vs then (if k < g.length then some none else none) else g[k]?
  | [], k => by simp [L2.wipe]
  | v :: vs, k => by
    unfold L2.wipe
    rw [List.getElem?_set, L2.wipe_length, wipe_get g vs k]
    by_cases e : v = k
    · subst e; simp
    · rw [if_neg e]
      have : (k ∈ v :: vs) ↔ k ∈ vs := by simp [Ne.symm (a := v) (b := k) e]
      simp only [this]
theorem wipe_ext {g g' : St} {vs : List Nat} (hl : g'.length = g.length) (h : ∀ k, k ∉ vs → g'[k]? = g[k]?) : L2.wipe g' vs = L2.wipe g vs := by
  apply List.ext_getElem?
  intro k
  rw [wipe_get, wipe_get, hl]
  by_cases e : k ∈ vs
  · rw [if_pos e, if_pos e]
  · rw [if_neg e, if_neg e, h k e]
abbrev DG := Dv → Env → Option Env
def TGok (K : Kw) (t : TG) (gd : DG) (vs : List Nat) : Prop := ∀ (L0 : Addr → Prop) (io0 : List Addr) (H0 : Hp) (L : Addr → Prop) (io : List Addr) (H : Hp) (g : St) (e : Env) (S : Sto) (v : V) (d : Dv) (e' : Env) (Q : St → Hp → Prop),
  FR K L0 io0 H0 L io H g e S → VR K L io H v d → gd d e = some e' → (∀ g', FR K L0 io0 H0 L io H g' e' S → g'.length = g.length → (∀ k, k ∉ vs → g'[k]? = g[k]?) → Q g' H) → t v g H Q
def tgR (K : Kw) (gd : DG) (vs : List Nat) : TG := fun v g H Q => ∃ (L0 : Addr → Prop) (io0 : List Addr) (H0 : Hp) (L : Addr → Prop) (io : List Addr) (e : Env) (S : Sto) (d : Dv) (e' : Env), FR K L0 io0 H0 L io H g e S ∧ VR K L io H v d ∧ gd d e = some e' ∧
  ∀ g', FR K L0 io0 H0 L io H g' e' S → g'.length = g.length → (∀ k, k ∉ vs → g'[k]? = g[k]?) → Q g' H
theorem tgR_ok {K : Kw} {gd : DG} {vs : List Nat} : TGok K (tgR K gd vs) gd vs := fun L0 io0 H0 L io H g e S v d e' Q fr r h q => ⟨L0, io0, H0, L, io, e, S, d, e', fr, r, h, q⟩
/-- a target, and the slots that it may change -/
def QG (X : Cx) (tg : Expr) (gd : DG) (vs : List Nat) : Prop := ∃ t, PG X tg t ∧ TGok X.kw t gd vs
theorem QG.canon {X : Cx} {tg : Expr} {gd : DG} {vs : List Nat} (h : QG X tg gd vs) : PG X tg (tgR X.kw gd vs) := by
  obtain ⟨t, p, o⟩ := h
  refine ⟨fun pins s g H v u Q I r q => p.run pins s g H v u Q I r ?_⟩
  obtain ⟨L0, io0, H0, L, io, e, S, d, e', fr, rv, hd, q⟩ := q
  exact o L0 io0 H0 L io H g e S v d e' Q fr rv hd q
def gN (i : Nat) : DG := fun d e => some (e.set i (.va d))
abbrev DGs := List Dv → Env → Option Env
def TGsok (K : Kw) (t : TGs) (gd : DGs) (vs : List Nat) : Prop := ∀ (L0 : Addr → Prop) (io0 : List Addr) (H0 : Hp) (L : Addr → Prop) (io : List Addr) (H : Hp) (g : St) (e : Env) (S : Sto) (v : List V) (d : List Dv) (e' : Env) (Q : St → Hp → Prop),
  FR K L0 io0 H0 L io H g e S → VRs K L io H v d → gd d e = some e' → (∀ g', FR K L0 io0 H0 L io H g' e' S → g'.length = g.length → (∀ k, k ∉ vs → g'[k]? = g[k]?) → Q g' H) → t v g H Q
def QGs (X : Cx) (ts : List Expr) (gd : DGs) (n : Nat) (vs : List Nat) : Prop := (∃ t, PGs X ts t ∧ TGsok X.kw t gd vs) ∧ ∀ l e e', gd l e = some e' → l.length = n
def gsNil : DGs := fun l e => match l with
  | [] => some e
  | _ => none
def gsCons (g : DG) (gs : DGs) : DGs := fun l e => match l with
  | d :: r => (g d e).bind fun e' => gs r e'
  | [] => none
def gT (gs : DGs) : DG := fun d e => (asT d).bind fun l => gs l e
section
variable {X : Cx} {pos : Pos} {x : Str} {i : Nat} {tg : Expr} {ts : List Expr} {gd : DG} {gds : DGs} {vs ws : List Nat} {n : Nat}
theorem qg_name (hN : X.N.Nodup) (i : Nat) (hi : X.N[i]? = some x := by rfl) (hx : Loc X.env.scope x := by first | exact Or.inl rfl | exact Or.inr rfl) (hf : X.fn x = true ∨ X.env.scope.names.lookup x = some .local := by first | exact .inl rfl | exact .inr rfl) : QG X (.Name x pos) (gN i) [i] := by
  refine ⟨gName i, pg_name hN hi hx hf, fun L0 io0 H0 L io H g e S v d e' Q fr r h q => ?_⟩
  cases h
  exact q _ (fr.setV i r) (List.length_set ..) fun k hk => set_ne (by simpa using hk)
theorem qgs_nil : QGs X [] gsNil 0 [] := by
  refine ⟨⟨gNil, pgs_nil, fun L0 io0 H0 L io H g e S v d e' Q fr r h q => ?_⟩, fun l e e' h => ?_⟩
  · cases r with
    | nil => cases h; exact ⟨rfl, q _ fr rfl fun _ _ => rfl⟩
    | cons => cases h
  · cases l with
    | nil => rfl
    | cons => cases h
theorem qgs_cons (h1 : QG X tg gd vs) (h2 : QGs X ts gds n ws) (hp : ∀ {t u}, PG X tg t → PGs X ts u → PGs X (tg :: ts) (gCons t u) := by intro _ _ a b; exact pgs_cons a b) : QGs X (tg :: ts) (gsCons gd gds) (n + 1) (vs ++ ws) := by
  obtain ⟨t, p1, o1⟩ := h1
  obtain ⟨⟨u, p2, o2⟩, hn⟩ := h2
  refine ⟨⟨gCons t u, hp p1 p2, fun L0 io0 H0 L io H g e S v d e' Q fr r h q => ?_⟩, fun l e e' h => ?_⟩
  · cases r with
    | nil => cases h
    | cons ra rt =>
      rename_i v vs' d ds
      simp only [gsCons] at h
      cases h3 : gd d e with
      | none => rw [h3] at h; cases h
      | some e1 =>
        rw [h3] at h
        refine ⟨v, vs', rfl, o1 L0 io0 H0 L io H g e S v d e1 _ fr ra h3 fun g1 fr1 l1 k1 => ?_⟩
        refine o2 L0 io0 H0 L io H g1 e1 S vs' ds e' _ fr1 rt h fun g2 fr2 l2 k2 => ?_
        exact q g2 fr2 (l2.trans l1) fun k hk => (k2 k fun z => hk (List.mem_append_right _ z)).trans (k1 k fun z => hk (List.mem_append_left _ z))
  · cases l with
    | nil => cases h
    | cons d ds =>
      simp only [gsCons] at h
      cases h3 : gd d e with
      | none => rw [h3] at h; cases h
      | some e1 => rw [h3] at h; rw [List.length_cons, hn ds e1 e' h]
theorem qg_tup {k : Nat} (hc : X.calm = true) (h : QGs X ts gds n vs) (hn : (assignEach ts X.env).length = n := by rfl) (hst : (assignEach ts X.env).findIdx? (·.1) = none := by rfl) : QG X (.Tuple ts k pos) (gT gds) vs := by
  obtain ⟨⟨t, p, o⟩, hl⟩ := h
  refine ⟨gTup X.kw n t, pg_tup hc p hn hst, fun L0 io0 H0 L io H g e S v d e' Q fr r h q => ?_⟩
  unfold gT at h
  cases h1 : asT d with
  | none => rw [h1] at h; cases h
  | some l =>
    rw [h1] at h
    obtain ⟨a, xs, rfl, hs, t'⟩ := asT_ok r h1
    exact ⟨a, xs, rfl, hs, by rw [t'.len]; exact hl l e e' h, o L0 io0 H0 L io H g e S xs l e' Q fr t' h q⟩
end
structure WalkR (K : Kw) (L : Addr → Prop) (io : List Addr) (H : Hp) (J : It) (l : List Dv) : Prop where
  go : ∀ (L1 : Addr → Prop) (io1 : List Addr) (H1 : Hp) (S : Sto) (i : Nat) (d : Dv), Stw L io H L1 io1 H1 → SR K L1 io1 H1 S → l[i]? = some d → J.go i H1 ∧ ∀ x H2, J.yld i H1 x H2 → SR K L1 io1 H2 S ∧ Stp L1 io1 H1 L1 io1 H2 ∧ VR K L1 io1 H2 x d
  stop : ∀ (L1 : Addr → Prop) (io1 : List Addr) (H1 : Hp), Stw L io H L1 io1 H1 → J.stop l.length H1
def FinI (K : Kw) (W : WX) (g : St) (L : Addr → Prop) (io : List Addr) (H : Hp) (R : It → Hp → Prop) : Res (List Dv) → Prop
  | .ok l S' => ∀ (J : It) (H' : Hp) (L' : Addr → Prop) (io' : List Addr), Stp L io H L' io' H' → SR K L' io' H' S' → WalkR K L' io' H' J l → R J H'
  | .ex c fs S' => ∀ (x : Option Addr) (H' : Hp) (L' : Addr → Prop) (io' : List Addr), Stp L io H L' io' H' → SR K L' io' H' S' → ExR K L' io' H' x fs → W (.ref (He.ga K c)) x g H'
  | .no => False
def rdi (K : Kw) (W : WX) (f : DL) : TI := fun g H R => ∃ (L0 : Addr → Prop) (io0 : List Addr) (H0 : Hp) (L : Addr → Prop) (io : List Addr) (e : Env) (S : Sto), FR K L0 io0 H0 L io H g e S ∧ FinI K W g L io H R (f e S)
abbrev QI (X : Cx) (W : WX) (tg e : Expr) (f : DL) : Prop := PI X tg e (rdi X.kw W f)
theorem FinI.bind {α β : Type} {K : Kw} {W : WX} {R : (Addr → Prop) → List Addr → Hp → β → α → Prop} {f : Env → Sto → Res α} {k : α → Sto → Res (List Dv)} {g : St} {L0 L : Addr → Prop} {io0 io : List Addr} {H0 H : Hp} {e : Env} {S : Sto} {Q : It → Hp → Prop} {P : β → Hp → Prop}
    (fr : FR K L0 io0 H0 L io H g e S) (h : FinI K W g L io H Q (bnd (f e S) k))
    (n : ∀ (L1 : Addr → Prop) (io1 : List Addr) (H1 : Hp) (S1 : Sto) (a : α) (v : β), Stp L io H L1 io1 H1 → FR K L0 io0 H0 L1 io1 H1 g e S1 → R L1 io1 H1 v a → FinI K W g L1 io1 H1 Q (k a S1) → P v H1) : Rdg K W R f g H P := by
  refine ⟨L0, io0, H0, L, io, e, S, fr, ?_⟩
  cases hf : f e S with
  | ok a S1 =>
    rw [hf] at h
    intro v H1 L1 io1 s1 sr1 r1
    have h : FinI K W g L io H Q (k a S1) := h
    refine n L1 io1 H1 S1 a v s1 (fr.step s1 sr1) r1 ?_
    cases hk : k a S1 with
    | ok l S2 =>
      rw [hk] at h
      exact fun v H' L' io' s2 sr r2 => h v H' L' io' (s1.trans s2 fr.st.sub) sr r2
    | ex c fs S2 =>
      rw [hk] at h
      exact fun v H' L' io' s2 sr r2 => h v H' L' io' (s1.trans s2 fr.st.sub) sr r2
    | no => rw [hk] at h; exact h
  | ex c fs S1 => rw [hf] at h; exact h
  | no => rw [hf] at h; exact h
section
variable {K : Kw} {L : Addr → Prop} {io : List Addr} {H : Hp}
theorem SqT.stw {a : Addr} {xs : List V} {ds : List Dv} {L1 : Addr → Prop} {io1 : List Addr} {H1 : Hp} {v : V} (r : VR K L io H v (.tup ds)) (s : Stw L io H L1 io1 H1) : ∃ a xs, v = .ref a ∧ SqT K H1 a xs ∧ VRs K L1 io1 H1 xs ds := (r.stw s).tupS
theorem walk_tup {a : Addr} {ds : List Dv} (r : VR K L io H (.ref a) (.tup ds)) : WalkR K L io H (Itt K a) ds where
  go := fun L1 io1 H1 S i d s sr h => by
    obtain ⟨a', xs, e, hs, t⟩ := (r.stw s).tupS
    cases e
    obtain ⟨v, h1, h2⟩ := t.get h
    refine ⟨⟨xs, v, hs, h1⟩, fun x H2 ⟨e, y⟩ => ?_⟩
    subst e
    have := y xs hs
    rw [h1] at this
    cases this
    exact ⟨sr, Stp.refl .., h2⟩
  stop := fun L1 io1 H1 s => by
    obtain ⟨a', xs, e, hs, t⟩ := (r.stw s).tupS
    cases e
    exact ⟨xs, hs, by rw [t.len]; exact Nat.le_refl _⟩
/-- a list that no handle holds -/
def asF : Dv → Option (List Dv)
  | .lst l => some l
  | .rol l => some l
  | _ => none
theorem asF_ok {v : V} {d : Dv} {l : List Dv} (r : VR K L io H v d) (h : asF d = some l) : ∃ a xs, v = .ref a ∧ SqL K H a xs ∧ VRs K L io H xs l := by
  cases r with
  | lst nl e t => cases h; exact ⟨_, _, rfl, SqL.of e, t⟩
  | rol nl e t => cases h; exact ⟨_, _, rfl, .inl e, t⟩
  | rolK e t => cases h; exact ⟨_, _, rfl, e H, t⟩
  | _ => cases h
theorem walk_lst {a : Addr} {d : Dv} {ds : List Dv} (r : VR K L io H (.ref a) d) (h : asF d = some ds) : WalkR K L io H (Itl K a) ds where
  go := fun L1 io1 H1 S i d s sr hd => by
    obtain ⟨a', xs, e, hs, t⟩ := asF_ok (r.stw s) h
    cases e
    obtain ⟨v, h1, h2⟩ := t.get hd
    refine ⟨⟨xs, v, hs, h1⟩, fun x H2 ⟨e, y⟩ => ?_⟩
    subst e
    have := y xs hs
    rw [h1] at this
    cases this
    exact ⟨sr, Stp.refl .., h2⟩
  stop := fun L1 io1 H1 s => by
    obtain ⟨a', xs, e, hs, t⟩ := asF_ok (r.stw s) h
    cases e
    exact ⟨xs, hs, by rw [t.len]; exact Nat.le_refl _⟩
def rngD (lo : Int) (n : Nat) : List Dv := (List.range n).map fun (i : Nat) => Dv.int (lo + (i : Int))
theorem walk_rng {lo : Int} {n : Nat} : WalkR K L io H (Itr lo n) (rngD lo n) where
  go := fun L1 io1 H1 S i d s sr hd => by
    unfold rngD at hd
    rw [List.getElem?_map] at hd
    cases e : (List.range n)[i]? with
    | none => rw [e] at hd; cases hd
    | some j =>
      rw [e] at hd
      have hi := (List.getElem?_eq_some_iff.mp e)
      obtain ⟨h1, h2⟩ := hi
      rw [List.getElem_range] at h2
      subst h2
      cases hd
      rw [List.length_range] at h1
      refine ⟨h1, fun x H2 ⟨e, y⟩ => ?_⟩
      subst e y
      exact ⟨sr, Stp.refl .., .int _⟩
  stop := fun L1 io1 H1 s => by
    show n ≤ (rngD lo n).length
    unfold rngD
    rw [List.length_map, List.length_range]
    exact Nat.le_refl _
end
section
variable {X : Cx} {W : WX} {pos p : Pos} {tg a b : Expr} {f f2 : DE}
/-- what pyIter gives of a value -/
def IterR (X : Cx) (tg : Expr) (r : V → Hp → (It → Hp → Prop) → Prop) : Prop := ∀ (pins : List (Addr × Obj)) (s : Shared) (g : St) (H : Hp) (x : V) (v : Value) (R : It → Hp → Prop), Inv X pins g H s → RelV x v → r x H R → wpAny (model X.prog X.w) X.A (pyIter v) (PIE X pins g tg R) X.xe s
theorem IterR.or' {r r' : V → Hp → (It → Hp → Prop) → Prop} (h : IterR X tg r) (h' : IterR X tg r') : IterR X tg (fun x H R => r x H R ∨ r' x H R) := fun pins s g H x v R I rx q => q.elim (h pins s g H x v R I rx) (h' pins s g H x v R I rx)
theorem pi_of {l : Expr} {tl : TE} {r : V → Hp → (It → Hp → Prop) → Prop} (hl : PE X l tl) (hr : IterR X tg r) : PI X tg l (fun g H R => tl g H fun x H1 => r x H1 R) :=
  ⟨fun pins s g H R I h => thn (hl.run pins s g H _ I h) fun v s1 ⟨x, H1, I1, r1, q1⟩ => hr pins s1 g H1 x v R I1 r1 q1⟩
theorem iter_lst : IterR X tg (fun x H R => ∃ a, x = .ref a ∧ (∃ xs, SqL X.kw H a xs) ∧ R (Itl X.kw a) H) := by
  rintro pins s g H x v R I rx ⟨a, rfl, ⟨xs, hq⟩, q⟩
  obtain rfl : v = .ref a := rx
  obtain ⟨its, rv, p, hz⟩ := I.list hq
  exact wpAny_pyIter_list p.isList ⟨_, _, _, _, H, rfl, I.kept (t' := s.toks) fun b o e => Heap.get?_push_of_some _ e, turn_list a _, ⟨_, Heap.get?_push_size _ rfl, rfl, rfl⟩, fun b hb => by
    rw [show b = s.heap.objs.size from by simpa using hb]
    exact I.fpOk (Nat.le_refl _) (I.hok.fresh (Nat.le_refl _)), q⟩
theorem iter_tup : IterR X tg (fun x H R => ∃ a, x = .ref a ∧ (∃ xs, SqT X.kw H a xs) ∧ R (Itt X.kw a) H) := by
  rintro pins s g H x v R I rx ⟨a, rfl, ⟨xs, hq⟩, q⟩
  obtain rfl : v = .ref a := rx
  obtain ⟨its, rv, p, hz⟩ := I.tuple hq
  exact wpAny_pyIter_tuple (show s.heap.IsTuple a its.toArray from p) ⟨_, _, _, _, H, rfl, I.kept (t' := s.toks) fun b o e => Heap.get?_push_of_some _ e, turn_tuple a _, ⟨_, Heap.get?_push_size _ rfl, rfl, rfl⟩, fun b hb => by
    rw [show b = s.heap.objs.size from by simpa using hb]
    exact I.fpOk (Nat.le_refl _) (I.hok.fresh (Nat.le_refl _)), q⟩
theorem iter_str : IterR X tg (fun x H R => ∃ z, x = .str z ∧ R (Its z) H) := by
  rintro pins s g H x v R I rx ⟨z, rfl, q⟩
  obtain ⟨t, rfl⟩ := rx
  cases ha : z.cps.all (· < 128)
  · exact wpAny_pyIter_wide ha (pi_one (tk := s.toks) I _ (turn_str _ z t "str_iterator" (.inr rfl)) ⟨_, Heap.get?_push_size _ rfl, rfl, rfl⟩ q)
  · exact wpAny_pyIter_ascii ha (pi_one (tk := s.toks) I _ (turn_str _ z t "str_ascii_iterator" (.inl rfl)) ⟨_, Heap.get?_push_size _ rfl, rfl, rfl⟩ q)
def strL (z : Str) : List Dv := z.cps.toList.map fun c => Dv.str ⟨#[c]⟩
theorem walk_str {K : Kw} {L : Addr → Prop} {io : List Addr} {H : Hp} {z : Str} : WalkR K L io H (Its z) (strL z) where
  go := fun L1 io1 H1 S i d s sr hd => by
    unfold strL at hd
    rw [List.getElem?_map] at hd
    cases e : z.cps.toList[i]? with
    | none => rw [e] at hd; cases hd
    | some c =>
      rw [e] at hd
      cases hd
      have hi := (List.getElem?_eq_some_iff.mp e).1
      refine ⟨(by simpa using hi : i < z.cps.size), fun x H2 ⟨e2, c', y1, y2⟩ => ?_⟩
      subst e2 y2
      have : c' = c := by
        rw [Array.getElem?_toList] at e
        rw [e] at y1
        exact (Option.some.inj y1).symm
      subst this
      exact ⟨sr, Stp.refl .., .str _⟩
  stop := fun L1 io1 H1 s => by
    show z.cps.size ≤ (strL z).length
    unfold strL
    simp
def seqR (d : Dv) (S : Sto) : Res (List Dv) := match d with
  | .tup l => .ok l S
  | .lst l => .ok l S
  | .rol l => .ok l S
  | .str z => .ok (strL z) S
  | _ => .no
def iSq (f : DE) : DL := fun e S => bnd (f e S) seqR
theorem qi_seq (h : QE X W a f) : QI X W tg a (iSq f) := by
  have hp := pi_of h (IterR.or' (iter_lst (X := X) (tg := tg)) (IterR.or' iter_tup iter_str))
  refine ⟨fun pins s g H R I q => hp.run pins s g H R I ?_⟩
  obtain ⟨L0, io0, H0, L, io, e, S, fr, q⟩ := q
  refine FinI.bind (R := VR X.kw) (k := seqR) fr q fun L1 io1 H1 S1 d v s1 fr1 r1 q => ?_
  cases d with
  | tup l =>
    obtain ⟨a, xs, rfl, hs, t⟩ := r1.tupS
    exact .inr (.inl ⟨a, rfl, ⟨xs, hs⟩, q _ H1 L1 io1 (Stp.refl ..) fr1.st (walk_tup r1)⟩)
  | lst l =>
    obtain ⟨a, xs, rfl, hs, t⟩ := asF_ok r1 rfl
    exact .inl ⟨a, rfl, ⟨xs, hs⟩, q _ H1 L1 io1 (Stp.refl ..) fr1.st (walk_lst r1 rfl)⟩
  | rol l =>
    obtain ⟨a, xs, rfl, hs, t⟩ := asF_ok r1 rfl
    exact .inl ⟨a, rfl, ⟨xs, hs⟩, q _ H1 L1 io1 (Stp.refl ..) fr1.st (walk_lst r1 rfl)⟩
  | str z =>
    cases r1
    exact .inr (.inr ⟨z, rfl, q _ H1 L1 io1 (Stp.refl ..) fr1.st walk_str⟩)
  | _ => exact q.elim
def rngR1 : List Dv → Sto → Res (List Dv)
  | [.int j], S => if -(2 ^ 62) ≤ j ∧ j < 2 ^ 62 then .ok (rngD 0 j.toNat) S else .no
  | _, _ => .no
def rngR2 : List Dv → Sto → Res (List Dv)
  | [.int i, .int j], S => if -(2 ^ 62) ≤ i ∧ i < 2 ^ 62 ∧ -(2 ^ 62) ≤ j ∧ j < 2 ^ 62 then .ok (rngD i (j - i).toNat) S else .no
  | _, _ => .no
def iRng1' (fa : DA) : DL := fun e S => bnd (fa e S) rngR1
def iRng2' (fa : DA) : DL := fun e S => bnd (fa e S) rngR2
theorem qi_range1 (hm : X.mg "range" = none) {fa : DA} (ha : QA X W [a] fa) (hg : Gl X "range" := by rfl) (hs : starEach [a] X.env = [(false, eval a X.env)] := by rfl) : QI X W tg (.Call (.Name "range" p) [a] [] pos) (iRng1' fa) := by
  have hp := pi_range1 (tg := tg) (p := p) (pos := pos) hg hm ha hs
  refine ⟨fun pins s g H R I q => hp.run pins s g H R I ?_⟩
  obtain ⟨L0, io0, H0, L, io, e, S, fr, q⟩ := q
  refine FinI.bind (R := VRs X.kw) (k := rngR1) fr q fun L1 io1 H1 S1 l v s1 fr1 r1 q => ?_
  cases r1 with
  | nil => exact q.elim
  | cons r t =>
    cases r with
    | int j =>
      cases t with
      | nil =>
        simp only [rngR1] at q
        split at q
        · rename_i h
          exact ⟨j, rfl, h.1, h.2, q _ H1 L1 io1 (Stp.refl ..) fr1.st walk_rng⟩
        · exact q.elim
      | cons r2 t2 => exact q.elim
    | _ => exact q.elim
end
end DL
namespace DL
open PySem L2
def W0 : WX := fun _ _ _ _ => False
def lcR (tg : DG) (tt : DT) (te : DE) (e : Env) : List Dv → Sto → Res (List Dv)
  | [], S => .ok [] S
  | d :: ds, S => match tg d e with
    | none => .no
    | some e' => match tt e' S with
      | .ok b S1 => if b then (match te e' S1 with
          | .ok y S2 => (match lcR tg tt te e ds S2 with
            | .ok l S3 => .ok (y :: l) S3
            | _ => .no)
          | _ => .no) else lcR tg tt te e ds S1
      | _ => .no
def fLc (fi : DL) (tg : DG) (tt : DT) (te : DE) (vs : List Nat) : DL := fun e S => bnd (fi e S) fun ds S1 => match lcR tg tt te (wipeE e vs) ds S1 with
  | .ok l S2 => if l.length ≤ sizeLine then .ok l S2 else .no
  | _ => .no
def tTrue : DT := fun _ S => .ok true S
abbrev QTs (X : Cx) (W : WX) (es : List Expr) (f : DT) : Prop := PTs X es (rdt X.kw W f)
theorem pts_imp {X : Cx} {e : List Expr} {t t' : TT} (h : PTs X e t) (i : ∀ g H Q, t' g H Q → t g H Q) : PTs X e t' := ⟨fun pins s g H Q I q => h.run pins s g H Q I (i g H Q q)⟩
theorem qts_nil {X : Cx} {W : WX} : QTs X W [] tTrue := pts_imp pts_nil fun g H Q q => by
  obtain ⟨L0, io0, H0, L, io, e, S, fr, q⟩ := q
  exact q.ok1 fr.st rfl
theorem FinI.bindF {K : Kw} {W : WX} {f : DL} {k : List Dv → Sto → Res (List Dv)} {g : St} {L0 L : Addr → Prop} {io0 io : List Addr} {H0 H : Hp} {e : Env} {S : Sto} {Q : V → Hp → Prop} {P : It → Hp → Prop}
    (fr : FR K L0 io0 H0 L io H g e S) (h : FinF K W g L io H Q (bnd (f e S) k))
    (n : ∀ (L1 : Addr → Prop) (io1 : List Addr) (H1 : Hp) (S1 : Sto) (a : List Dv) (J : It), Stp L io H L1 io1 H1 → FR K L0 io0 H0 L1 io1 H1 g e S1 → WalkR K L1 io1 H1 J a → FinF K W g L1 io1 H1 Q (k a S1) → P J H1) : rdi K W f g H P := by
  refine ⟨L0, io0, H0, L, io, e, S, fr, ?_⟩
  cases hf : f e S with
  | ok a S1 =>
    rw [hf] at h
    intro v H1 L1 io1 s1 sr1 r1
    have h : FinF K W g L io H Q (k a S1) := h
    refine n L1 io1 H1 S1 a v s1 (fr.step s1 sr1) r1 ?_
    cases hk : k a S1 with
    | ok l S2 =>
      rw [hk] at h
      intro v H' L' io' s2 sr2 ⟨p, xs, e1, e2, e3⟩
      refine h v H' L' io' (s1.trans s2 fr.st.sub) sr2 ⟨p, xs, e1, ?_, e3⟩
      rcases s1.back e2 with z | z
      · exact absurd e2 (sr1.dom p (s1.up p (fr.st.sub p z)))
      · exact z
    | ex c fs S2 =>
      rw [hk] at h
      exact fun v H' L' io' s2 sr r2 => h v H' L' io' (s1.trans s2 fr.st.sub) sr r2
    | no => rw [hk] at h; exact h
  | ex c fs S1 => rw [hf] at h; exact h
  | no => rw [hf] at h; exact h
section
variable {X : Cx} {W : WX} {elt tg iter : Expr} {ifs : List Expr} {scope : Scope} {own : List (Str × Nat)} {pos : Pos} {fi : DL} {gd : DG} {tt : DT} {te : DE} {vs : List Nat}
theorem rd_lc {K : Kw} {t : TG} (ho : TGok K t gd vs) {g : St} {H : Hp} {Q : VK} (q : rdF K W (fLc fi gd tt te vs) g H Q) : tLc (rdi K W fi) t (rdt K W0 tt) (rd K W0 te) vs g H Q := by
  obtain ⟨L0, io0, H0, L, io, e, S, fr, q⟩ := q
  refine FinI.bindF (k := fun ds S1 => match lcR gd tt te (wipeE e vs) ds S1 with
    | .ok l S2 => if l.length ≤ sizeLine then .ok l S2 else .no
    | _ => .no) fr q fun L1 io1 H1 S1 ds J s1 fr1 wk q => ?_
  cases hl : lcR gd tt te (wipeE e vs) ds S1 with
  | ex c fs S2 => rw [hl] at q; exact q.elim
  | no => rw [hl] at q; exact q.elim
  | ok l S2 =>
    rw [hl] at q
    simp only at q
    split at q
    · rename_i hz
      intro D hD
      have st0 := fr1.st
      -- the invariant
      refine ⟨fun i m H' => m = ds.length - i ∧ i ≤ ds.length ∧ ∃ (L' : Addr → Prop) (io' : List Addr) (S' : Sto) (acc : List V) (da dr : List Dv), FR K L0 io0 H0 L' io' H' (L2.wipe g vs) (wipeE e vs) S' ∧ Stp L1 io1 H1 L' io' H' ∧ Stw L1 io1 H1 L' io' H' ∧ L' D ∧ D ∉ io' ∧ H' D = some (.lst acc) ∧ VRs K L' io' H' acc da ∧ lcR gd tt te (wipeE e vs) (ds.drop i) S' = .ok dr S2 ∧ da ++ dr = l, ⟨ds.length, by simp, Nat.zero_le _, ?_⟩, ?_⟩
      · have s2 : Stp L1 io1 H1 (Ly L1 D) io1 (upd H1 D (.lst [])) := Stp.newV hD
        exact ⟨Ly L1 D, io1, S1, [], [], l, (fr1.step s2 (st0.newV hD)).wipe vs, s2, s2.stw st0.sub, .inr rfl, fun z => st0.dom D (st0.sub D z) hD, upd_same, .nil, by rw [List.drop_zero]; exact hl, rfl⟩
      · rintro i m H' ⟨rfl, hi, L', io', S', acc, da, dr, fr', sp, sw, lD, nD, hDa, ra, hr, hda⟩
        by_cases hlt : i < ds.length
        · obtain ⟨d, hd⟩ : ∃ d, ds[i]? = some d := ⟨_, List.getElem?_eq_getElem hlt⟩
          have hdrop : ds.drop i = d :: ds.drop (i + 1) := by
            rw [List.drop_eq_getElem_cons hlt]
            rw [List.getElem?_eq_getElem hlt] at hd
            cases hd
            rfl
          rw [hdrop] at hr
          obtain ⟨hgo, hy⟩ := wk.go L' io' H' S' i d sw fr'.st hd
          refine .inr ⟨hgo, fun H'' => ∃ m', m' < ds.length - i ∧ (m' = ds.length - (i + 1) ∧ i + 1 ≤ ds.length ∧ ∃ (L' : Addr → Prop) (io' : List Addr) (S' : Sto) (acc : List V) (da dr : List Dv), FR K L0 io0 H0 L' io' H'' (L2.wipe g vs) (wipeE e vs) S' ∧ Stp L1 io1 H1 L' io' H'' ∧ Stw L1 io1 H1 L' io' H'' ∧ L' D ∧ D ∉ io' ∧ H'' D = some (.lst acc) ∧ VRs K L' io' H'' acc da ∧ lcR gd tt te (wipeE e vs) (ds.drop (i + 1)) S' = .ok dr S2 ∧ da ++ dr = l), fun H'' h => h, fun x H2 y => ?_⟩
          obtain ⟨sr2, sp2, r2⟩ := hy x H2 y
          have fr2 := fr'.step sp2 sr2
          -- the target
          simp only [lcR] at hr
          cases hg : gd d (wipeE e vs) with
          | none => rw [hg] at hr; cases hr
          | some e' =>
            rw [hg] at hr
            simp only at hr
            refine ho L0 io0 H0 L' io' H2 (L2.wipe g vs) (wipeE e vs) S' x d e' _ fr2 r2 hg fun g' fr3 lg kg => ⟨?_, ?_⟩
            · exact (wipe_ext lg kg).trans (wipe_ext (L2.wipe_length g vs) fun k hk => by rw [wipe_get, if_neg hk])
            -- the test
            · cases ht : tt e' S' with
              | ex c fs S3 => rw [ht] at hr; cases hr
              | no => rw [ht] at hr; cases hr
              | ok b S3 =>
                rw [ht] at hr
                simp only at hr
                refine ⟨L0, io0, H0, L', io', e', S', fr3, ?_⟩
                rw [ht]
                intro b' H3 L3 io3 s3 sr3 eb
                subst eb
                have fr3' := fr2.step s3 sr3
                have sp3 := (sp.trans sp2 st0.sub).trans s3 st0.sub
                have sw3 := (sw.trans (sp2.stw fr'.st.sub)).trans (s3.stw fr2.st.sub)
                have l3 : L3 D := s3.up D (sp2.up D lD)
                have k2 : H2 D = some (.lst acc) := sp2.keep D _ hDa nD
                have n3 : D ∉ io3 := fun z => by
                  rcases s3.hn D z with q | q
                  · exact nD q
                  · rw [q] at k2; cases k2
                have k3 : H3 D = some (.lst acc) := s3.keep D _ k2 nD
                have ra3 := (ra.step sp2 fr'.st.sub).step s3 fr2.st.sub
                cases b' with
                | false =>
                  rw [if_neg Bool.false_ne_true] at hr
                  refine iteF ⟨_, by omega, rfl, hlt, L3, io3, S3, acc, da, dr, fr3', sp3, sw3, l3, n3, k3, ra3, hr, hda⟩
                | true =>
                  rw [if_pos rfl] at hr
                  refine iteT ?_
                  -- the element
                  cases he : te e' S3 with
                  | ex c fs S4 => rw [he] at hr; cases hr
                  | no => rw [he] at hr; cases hr
                  | ok y' S4 =>
                    rw [he] at hr
                    simp only at hr
                    refine ⟨L0, io0, H0, L3, io3, e', S3, fr3.step s3 sr3, ?_⟩
                    rw [he]
                    intro y H4 L4 io4 s4 sr4 ry
                    have k4 : H4 D = some (.lst acc) := s4.keep D _ k3 n3
                    have l4 : L4 D := s4.up D l3
                    have n4 : D ∉ io4 := fun z => by
                      rcases s4.hn D z with q | q
                      · exact n3 q
                      · rw [q] at k3; cases k3
                    have fr4 := fr3'.step s4 sr4
                    have sp4 := sp3.trans s4 st0.sub
                    have sw4 := sw3.trans (s4.stw fr3'.st.sub)
                    have ra4 := ra3.step s4 fr3'.st.sub
                    cases hrest : lcR gd tt te (wipeE e vs) (ds.drop (i + 1)) S4 with
                    | ex c fs S5 => rw [hrest] at hr; cases hr
                    | no => rw [hrest] at hr; cases hr
                    | ok l' S5 =>
                      rw [hrest] at hr
                      cases hr
                      have hlen : acc.length < sizeLine := by
                        rw [ra.len]
                        rw [← hda, List.length_append, List.length_cons] at hz
                        omega
                      have hD1 : H1 D = none := hD
                      have frm : FR K L0 io0 H0 L4 io4 (upd H4 D (.lst (acc ++ [y]))) (L2.wipe g vs) (wipeE e vs) S4 := by
                        refine fr4.mutD l4 n4 (fr1.fresh0 hD) fun j q' v1 v2 v3 hg' => ?_
                        obtain ⟨o, ho', _⟩ := (fr1.wipe vs).ownAt v1 v2 v3 hg'
                        exact ne_of_none ho' hD
                      refine ⟨acc, k4, hlen, _, by omega, rfl, hlt, L4, io4, S4, acc ++ [y], da ++ [y'], l', frm, ?_, sw4.trans (Stw.mut l4), l4, n4, upd_same, (ra4.app (.cons ry .nil)).mut l4, hrest, by rw [List.append_assoc]; exact hda⟩
                      exact ⟨sp4.pre, sp4.hn, sp4.new, fun a o h n => by rw [upd_ne (ne_of_none h hD1)]; exact sp4.keep a o h n, sp4.up⟩
        · have ei : i = ds.length := by omega
          subst ei
          rw [List.drop_length] at hr
          cases hr
          rw [List.append_nil] at hda
          subst hda
          refine .inl ⟨wk.stop L' io' H' sw, ?_⟩
          exact q _ H' L' io' sp fr'.st ⟨D, acc, rfl, hD, lD, nD, hDa, ra⟩
    · exact q.elim
theorem qf_lc (hc : X.calm = true) (hN : X.N.Nodup) (hi : QI X W tg iter fi) (ok : BlkOk X.N X.env.scope scope own)
    (hg : ∀ (s : Shared) (H : Hp) (C : Addr) (cl : List (Str × Addr)) (fp : List Addr), QG (X.blk s H scope (compEnvC scope cl C X.env) fp) tg gd (own.map (·.2)))
    (ht : ∀ (s : Shared) (H : Hp) (C : Addr) (cl : List (Str × Addr)) (fp : List Addr), QTs (X.blk s H scope (compEnvC scope cl C X.env) fp) W0 ifs tt)
    (he : ∀ (s : Shared) (H : Hp) (C : Addr) (cl : List (Str × Addr)) (fp : List Addr), QE (X.blk s H scope (compEnvC scope cl C X.env) fp) W0 elt te) (hs : ∀ x, foldedSetIterable iter X.env x = pure x := by intro _; rfl) :
    QF X W (.ListComp elt [⟨tg, iter, ifs, 0⟩] scope pos) (fLc fi gd tt te (own.map (·.2))) :=
  pe_imp (pe_lc (g := tgR X.kw gd (own.map (·.2))) (tt := rdt X.kw W0 tt) (te := rd X.kw W0 te) hc hN hi ok (fun s H C cl fp => (hg s H C cl fp).canon) ht he hs) fun g H Q q => rd_lc tgR_ok q
end
end DL
namespace DL
open PySem L2
inductive Out where
  | nx (e : Env) (S : Sto) | rt (d : Dv) (S : Sto) | bk (e : Env) (S : Sto) | ct (e : Env) (S : Sto) | ex (c : Str) (fs : List (Str × Dv)) (e : Env) (S : Sto) | no
abbrev DS := Env → Sto → Out
def outR (K : Kw) (W : WX) (L0 : Addr → Prop) (io0 : List Addr) (H0 : Hp) (D : Ends) (L : Addr → Prop) (io : List Addr) (H : Hp) : Out → Prop
  | .nx e S => ∀ (g : St) (H' : Hp) (L' : Addr → Prop) (io' : List Addr), Stw L io H L' io' H' → FR K L0 io0 H0 L' io' H' g e S → D.nx g H'
  | .bk e S => ∀ (g : St) (H' : Hp) (L' : Addr → Prop) (io' : List Addr), Stw L io H L' io' H' → FR K L0 io0 H0 L' io' H' g e S → D.bk g H'
  | .ct e S => ∀ (g : St) (H' : Hp) (L' : Addr → Prop) (io' : List Addr), Stw L io H L' io' H' → FR K L0 io0 H0 L' io' H' g e S → D.ct g H'
  | .rt d S => ∀ (v : V) (H' : Hp) (L' : Addr → Prop) (io' : List Addr), SR K L' io' H' S → Stp L0 io0 H0 L' io' H' → VR K L' io' H' v d → D.rt v H'
  | .ex c fs e S => ∀ (x : Option Addr) (g : St) (H' : Hp) (L' : Addr → Prop) (io' : List Addr), Stw L io H L' io' H' → FR K L0 io0 H0 L' io' H' g e S → ExR K L' io' H' x fs → W (.ref (He.ga K c)) x g H'
  | .no => False
def rds (K : Kw) (W : WX) (f : DS) : TS := fun D g H => ∃ (L0 : Addr → Prop) (io0 : List Addr) (H0 : Hp) (L : Addr → Prop) (io : List Addr) (e : Env) (S : Sto), FR K L0 io0 H0 L io H g e S ∧ outR K W L0 io0 H0 D L io H (f e S)
abbrev QS (X : Cx) (W : WX) (st : Stmt) (f : DS) : Prop := PS X st (rds X.kw W f)
abbrev QSs (X : Cx) (W : WX) (sts : List Stmt) (f : DS) : Prop := PSs X sts (rds X.kw W f)
theorem outR.later {K : Kw} {W : WX} {L0 L L1 : Addr → Prop} {io0 io io1 : List Addr} {H0 H H1 : Hp} {D : Ends} {o : Out} (h : outR K W L0 io0 H0 D L io H o) (s : Stw L io H L1 io1 H1) : outR K W L0 io0 H0 D L1 io1 H1 o := by
  cases o with
  | nx e S => exact fun g H' L' io' s2 fr => h g H' L' io' (s.trans s2) fr
  | bk e S => exact fun g H' L' io' s2 fr => h g H' L' io' (s.trans s2) fr
  | ct e S => exact fun g H' L' io' s2 fr => h g H' L' io' (s.trans s2) fr
  | rt d S => exact h
  | ex c fs e S => exact fun x g H' L' io' s2 fr => h x g H' L' io' (s.trans s2) fr
  | no => exact h
def sBind {α : Type} (f : Env → Sto → Res α) (k : Env → α → Sto → Out) : DS := fun e S => match f e S with
  | .ok a S' => k e a S'
  | .ex c fs S' => .ex c fs e S'
  | .no => .no
theorem rds_bind {α β : Type} {K : Kw} {W : WX} {R : (Addr → Prop) → List Addr → Hp → β → α → Prop} {f : Env → Sto → Res α} {k : Env → α → Sto → Out} {D : Ends} {g : St} {H : Hp} {P : β → Hp → Prop} (h : rds K W (sBind f k) D g H)
    (n : ∀ (L0 : Addr → Prop) (io0 : List Addr) (H0 : Hp) (L : Addr → Prop) (io : List Addr) (H1 : Hp) (e : Env) (S : Sto) (a : α) (v : β), FR K L0 io0 H0 L io H1 g e S → R L io H1 v a → outR K W L0 io0 H0 D L io H1 (k e a S) → P v H1) : Rdg K W R f g H P := by
  obtain ⟨L0, io0, H0, L, io, e, S, fr, h⟩ := h
  unfold sBind at h
  refine ⟨L0, io0, H0, L, io, e, S, fr, ?_⟩
  cases hf : f e S with
  | ok a S1 =>
    rw [hf] at h
    intro v H1 L1 io1 s1 sr1 r1
    exact n L0 io0 H0 L1 io1 H1 e S1 a v (fr.step s1 sr1) r1 (outR.later h (s1.stw fr.st.sub))
  | ex c fs S1 =>
    rw [hf] at h
    exact fun x H' L' io' s sr r => h x g H' L' io' (s.stw fr.st.sub) (fr.step s sr) r
  | no => rw [hf] at h; exact h
section
variable {X : Cx} {W : WX} {pos : Pos} {a b c : Expr} {f : DE} {t : DT} {f1 f2 : DS} {st : Stmt} {rest sa sb : List Stmt} {i : Nat} {x : Str}
def sNil : DS := fun e S => .nx e S
def sSeq (f1 f2 : DS) : DS := fun e S => match f1 e S with
  | .nx e' S' => f2 e' S'
  | o => o
theorem qss_nil : QSs X W [] sNil := pss_imp pss_nil fun D g H h => by
  obtain ⟨L0, io0, H0, L, io, e, S, fr, h⟩ := h
  exact h g H L io (Stw.refl ..) fr
theorem qss_cons (h1 : QS X W st f1) (h2 : QSs X W rest f2) : QSs X W (st :: rest) (sSeq f1 f2) := pss_imp (pss_cons h1 h2) fun D g H h => by
  obtain ⟨L0, io0, H0, L, io, e, S, fr, h⟩ := h
  unfold sSeq at h
  refine ⟨L0, io0, H0, L, io, e, S, fr, ?_⟩
  cases hf : f1 e S with
  | nx e' S' =>
    rw [hf] at h
    exact fun g' H' L' io' s fr' => ⟨L0, io0, H0, L', io', e', S', fr', outR.later h s⟩
  | _ => rw [hf] at h; exact h
theorem qss_one (h1 : QS X W st f1) : QSs X W [st] f1 := pss_one h1
def sRet (f : DE) : DS := sBind f fun _ d S => .rt d S
theorem qs_ret (h : QE X W a f) : QS X W (.Return (some a) pos) (sRet f) := ps_imp (ps_ret h) fun D g H h => by
  refine rds_bind (R := VR X.kw) (k := fun _ d S => .rt d S) h fun L0 io0 H0 L io H1 e S d v fr r q => ?_
  exact q v H1 L io fr.st fr.en r
def sExpr (f : DE) : DS := sBind f fun e _ S => .nx e S
theorem qs_expr (h : QE X W a f) (hs : swapsWith a none pos.line X.env = pure false := by rfl) : QS X W (.Expr a pos) (sExpr f) := ps_imp (ps_expr h hs) fun D g H h => by
  refine rds_bind (R := VR X.kw) (k := fun e _ S => .nx e S) h fun L0 io0 H0 L io H1 e S d v fr r q => ?_
  exact q g H1 L io (Stw.refl ..) fr
def sIf (t : DT) (f1 f2 : DS) : DS := sBind t fun e b S => if b then f1 e S else f2 e S
theorem qs_if (hc : QT X W c t) (ha : QSs X W sa f1) (hb : QSs X W sb f2) : QS X W (.If c sa sb pos) (sIf t f1 f2) := ps_imp (ps_if hc ha hb) fun D g H h => by
  refine rds_bind (R := fun _ _ _ (v : Bool) d => v = d) (k := fun e b S => if b then f1 e S else f2 e S) h fun L0 io0 H0 L io H1 e S d v fr r q => ?_
  subst r
  cases v with
  | true => exact iteT ⟨L0, io0, H0, L, io, e, S, fr, q⟩
  | false => exact iteF ⟨L0, io0, H0, L, io, e, S, fr, q⟩
/-- x = e -/
def sAsg (i : Nat) (f : DE) : DS := sBind f fun e d S => .nx (e.set i (.va d)) S
theorem qs_asg (hN : X.N.Nodup) (i : Nat) {pos' : Pos} (h : QE X W a f) (hi : X.N[i]? = some x := by rfl) (hx : Loc X.env.scope x := by first | exact Or.inl rfl | exact Or.inr rfl) (hs : swapsWith a (some (.Name x pos')) pos.line X.env = pure false := by rfl) (hf : X.fn x = true ∨ X.env.scope.names.lookup x = some .local := by first | exact .inl rfl | exact .inr rfl) :
    QS X W (.Assign [.Name x pos'] a pos) (sAsg i f) := ps_imp (ps_set hN hi hx h hs hf) fun D g H h => by
  refine rds_bind (R := VR X.kw) (k := fun e d S => .nx (e.set i (.va d)) S) h fun L0 io0 H0 L io H1 e S d v fr r q => ?_
  exact q _ H1 L io (Stw.refl ..) (fr.setV i r)
/-- targets of any form -/
def sAsgG (gd : DG) (f : DE) : DS := sBind f fun e d S => match gd d e with
  | some e' => .nx e' S
  | none => .no
/-- x, y = e1, e2 -/
def sPar (i j : Nat) (fa : DA) : DS := sBind fa fun e l S => match l with
  | [d1, d2] => .nx ((e.set i (.va d1)).set j (.va d2)) S
  | _ => .no
theorem qs_par {y : Str} {px py pt : Pos} {kt k2 pt2} {fa : DA} (hc : X.calm = true) (hN : X.N.Nodup) (i j : Nat) (ha : QA X W [a, b] fa) (hi : X.N[i]? = some x := by rfl) (hj : X.N[j]? = some y := by rfl) (hij : i ≠ j := by decide)
    (hx : X.env.scope.names.lookup x = some .local := by rfl) (hy : X.env.scope.names.lookup y = some .local := by rfl)
    (hw : swappedStores [.Tuple [.Name x px, .Name y py] kt pt] (.Tuple [a, b] k2 pt2) X.env = pure (some [x, y]) := by rfl)
    (hs : swapsWithSole [.Tuple [.Name x px, .Name y py] kt pt] (.Tuple [a, b] k2 pt2) pos.line X.env = pure false := by rfl) :
    QS X W (.Assign [.Tuple [.Name x px, .Name y py] kt pt] (.Tuple [a, b] k2 pt2) pos) (sPar i j fa) := ps_imp (ps_par hc hN hi hj hij hx hy ha hw hs) fun D g H h => by
  refine rds_bind (R := VRs X.kw) (k := fun e l S => match l with
    | [d1, d2] => .nx ((e.set i (.va d1)).set j (.va d2)) S
    | _ => .no) h fun L0 io0 H0 L io H1 e S d v fr r q => ?_
  cases r with
  | nil => exact q.elim
  | cons r1 t1 =>
    cases t1 with
    | nil => exact q.elim
    | cons r2 t2 =>
      cases t2 with
      | cons => exact q.elim
      | nil => exact ⟨_, _, rfl, q _ H1 L io (Stw.refl ..) ((fr.setV i r1).setV j r2)⟩
def sPar3 (i j k : Nat) (fa : DA) : DS := sBind fa fun e l S => match l with
  | [d1, d2, d3] => .nx (((e.set i (.va d1)).set j (.va d2)).set k (.va d3)) S
  | _ => .no
/-- x = a new list: the slot's own -/
def sOwn (i : Nat) (f : DL) : DS := sBind f fun e l S => .nx (e.set i (.ow l)) S
/-- .. a handle -/
def sNew (i : Nat) (f : DL) : DS := sBind f fun e l S => .nx (e.set i (.va (.hdl S.length))) (S ++ [.lst l])
end
/-- a new list becomes a handle's -/
theorem SR.addO {K : Kw} {L : Addr → Prop} {io : List Addr} {H : Hp} {S : Sto} {p : Addr} {ob : Ob} (sr : SR K L io H S) (lp : L p) (np : p ∉ io) (h1 : ObR K L io H p ob) : SR K L (io ++ [p]) H (S ++ [ob]) := by
  have on : ∀ v d, VR K L io H v d → VR K L (io ++ [p]) H v d := fun v d r => VR.on (fun _ _ h => io_keep h) (fun a o e n => ⟨e, n⟩) r
  refine ⟨by rw [List.length_append, List.length_append, sr.len]; rfl, ?_, fun a h => ?_, sr.dom, fun k a o h3 h4 => ?_⟩
  · rw [List.nodup_append]
    exact ⟨sr.nd, by simp, fun a ha b hb => by simp at hb; subst hb; exact fun z => np (by rw [← z]; exact ha)⟩
  · rcases List.mem_append.mp h with z | z
    · exact sr.sub a z
    · simp at z; subst z; exact lp
  · by_cases hk : k < io.length
    · rw [List.getElem?_append_left hk] at h3
      rw [List.getElem?_append_left (by rw [← sr.len]; exact hk)] at h4
      exact (sr.obj k a o h3 h4).mono (fun _ e => e) on
    · have hk2 : io.length ≤ k := by omega
      rw [List.getElem?_append_right hk2] at h3
      rw [List.getElem?_append_right (by rw [← sr.len]; exact hk2), ← sr.len] at h4
      cases hd : k - io.length with
      | zero =>
        rw [hd] at h3 h4
        cases h3; cases h4
        exact h1.mono (fun _ e => e) on
      | succ n => rw [hd] at h3; simp at h3
theorem SR.addH {K : Kw} {L : Addr → Prop} {io : List Addr} {H : Hp} {S : Sto} {p : Addr} {xs : List V} {l : List Dv} (sr : SR K L io H S) (lp : L p) (np : p ∉ io) (h1 : H p = some (.lst xs)) (h2 : VRs K L io H xs l) : SR K L (io ++ [p]) H (S ++ [.lst l]) := sr.addO lp np ⟨xs, h1, h2⟩
section
variable {X : Cx} {W : WX} {pos : Pos} {a : Expr} {f : DL} {x : Str}
theorem FR.setH {K : Kw} {L0 L L1 : Addr → Prop} {io0 io io1 : List Addr} {H0 H H1 : Hp} {g : St} {e : Env} {S S1 : Sto} (fr : FR K L0 io0 H0 L io H g e S) (s : Stp L io H L1 io1 H1) (sr : SR K L1 io1 H1 S1) {v : V} {l : List Dv} (n : NewL K H L1 io1 H1 v l) :
    ∃ io2, Stp L io H L1 io2 H1 ∧ Stw L1 io1 H1 L1 io2 H1 ∧ SR K L1 io2 H1 (S1 ++ [.lst l]) ∧ VR K L1 io2 H1 v (.hdl S1.length) := by
  obtain ⟨p, xs, rfl, hp, lp, np, h1, h2⟩ := n
  have sr2 := sr.addH lp np h1 h2
  refine ⟨io1 ++ [p], ⟨?_, fun x hx => ?_, s.new, s.keep, s.up⟩, ⟨⟨[p], rfl⟩, fun _ h => .inl h, fun _ _ h _ => h⟩, sr2, .hdl (by rw [← sr.len]; simp)⟩
  · obtain ⟨m, rfl⟩ := s.pre
    exact ⟨m ++ [p], by simp⟩
  · rcases List.mem_append.mp hx with z | z
    · exact s.hn x z
    · simp at z; subst z; exact .inr hp
/-- a new list as a handle, as a value -/
def eNew (f : DL) : DE := fun e S => bnd (f e S) fun l S' => .ok (.hdl S'.length) (S' ++ [.lst l])
theorem qe_new (h : QF X W a f) : QE X W a (eNew f) := pe_imp h fun g H Q q => by
  obtain ⟨L0, io0, H0, L, io, e, S, fr, q⟩ := q
  refine ⟨L0, io0, H0, L, io, e, S, fr, ?_⟩
  have q : Fin X.kw W (VR X.kw) g L io H Q (bnd (f e S) fun l S' => .ok (.hdl S'.length) (S' ++ [.lst l])) := q
  cases hf : f e S with
  | no => rw [hf] at q; exact q
  | ex c fs S' => rw [hf] at q; exact q
  | ok l S' =>
    rw [hf] at q
    intro v H' L' io' s sr n
    obtain ⟨io2, s2, w2, sr2, r2⟩ := fr.setH s sr n
    exact q v H' L' io2 s2 sr2 r2
end
/-- what is a slot's own is own no more -/
def frzO : Ob → Dv
  | .lst l => .lst l
  | .dct l => .dic l
  | .ins c fs => .obj c fs
  | .ext _ _ _ => .non
  | .dcn l => .ext 4 "" [] (flD l)
def sFrz (i : Nat) : DS := fun e S => match e[i]? with
  | some (.own o) => .nx (e.set i (.va (frzO o))) S
  | _ => .no
theorem vrp_of {K : Kw} {L : Addr → Prop} {io : List Addr} {H : Hp} : ∀ {kvs : List (Key × V)} {l : List (Key × Dv)}, PairR (VR K L io H) kvs l → VRp K L io H kvs l
  | _, _, .nil => .nil
  | (k, v) :: _, (k', d) :: _, .cons ⟨h1, h2⟩ t => by
    cases (show k = k' from h1)
    exact .cons h2 (vrp_of t)
theorem vrf_of {K : Kw} {L : Addr → Prop} {io : List Addr} {H : Hp} : ∀ {kvs : List (Str × V)} {l : List (Str × Dv)}, PairR (VR K L io H) kvs l → VRf K L io H kvs l
  | _, _, .nil => .nil
  | (k, v) :: _, (k', d) :: _, .cons ⟨h1, h2⟩ t => by
    cases (show k = k' from h1)
    exact .cons h2 (vrf_of t)
theorem of_vrf {K : Kw} {L : Addr → Prop} {io : List Addr} {H : Hp} : ∀ {kvs : List (Str × V)} {l : List (Str × Dv)}, VRf K L io H kvs l → PairR (VR K L io H) kvs l
  | _, _, .nil => .nil
  | _, _, .cons h t => .cons ⟨rfl, h⟩ (of_vrf t)
theorem fl_keys {R : V → Dv → Prop} : ∀ {es : List (NestedKey × Addr × V)} {l : List (Dv × Dv)}, EnR R es l → flK (flD l) = es.map fun p => some p.1
  | _, _, .nil => rfl
  | _, _, .cons r t => by
    show nkT _ :: flK (flD _) = some _ :: List.map _ _
    rw [r.2.1, fl_keys t]
theorem fl_vrs {K : Kw} {L : Addr → Prop} {io : List Addr} {H : Hp} : ∀ {es : List (NestedKey × Addr × V)} {l : List (Dv × Dv)}, EnR (VR K L io H) es l → VRs K L io H (flV es) (flD l)
  | _, _, .nil => .nil
  | _, _, .cons r t => .cons r.1 (.cons r.2.2 (fl_vrs t))
theorem ObR.frz {K : Kw} {L : Addr → Prop} {io : List Addr} {H : Hp} {p : Addr} {o : Ob} (h : ObR K L io H p o) (n : ¬ L p) (np : p ∉ io) : VR K L io H (.ref p) (frzO o) := by
  cases o with
  | lst l => obtain ⟨xs, h1, h2⟩ := h; exact .lst n h1 h2
  | dct l => obtain ⟨xs, h1, h2⟩ := h; exact .dic n (.inl h1) (vrp_of h2)
  | ins c fs => obtain ⟨dx, xs, h1, h2⟩ := h; exact .obj n h1 (vrf_of h2)
  | ext => exact absurd h.1 np
  | dcn l => obtain ⟨es, h1, h2⟩ := h; exact .ext (by decide) (.ndu rfl (fl_keys h2)) (fun q hq => by cases List.mem_singleton.mp hq; exact ⟨n, h1⟩) (fl_vrs h2)
theorem FR.frz {K : Kw} {L0 L : Addr → Prop} {io0 io : List Addr} {H0 H : Hp} {g : St} {e : Env} {S : Sto} (fr : FR K L0 io0 H0 L io H g e S) {i : Nat} {o : Ob} (h : e[i]? = some (.own o)) :
    ∃ p, g[i]? = some (some (.ref p)) ∧ FR K L0 io0 H0 (Lz L p) io H g (e.set i (.va (frzO o))) S ∧ Stw L io H (Lz L p) io H := by
  obtain ⟨p, h1, h2, h3, h4, h5⟩ := fr.own i o h
  have hl : ∀ a, Lz L p a → L a := fun a z => z.1
  have on : ∀ v d, VR K L io H v d → VR K (Lz L p) io H v d := fun v d r => r.less hl
  have hi : i < e.length := (List.getElem?_eq_some_iff.mp h).1
  have ne : ∀ j q, j ≠ i → (∀ d, e[j]? ≠ some (.va d)) → e[j]? ≠ some .no → g[j]? = some (some (.ref q)) → q ≠ p := fun j q hj v1 v2 hg z => by
    subst z
    exact fr.inj i j q (fun z => hj z.symm) (by rw [h]; intro d z; cases z) v1 (by rw [h]; intro z; cases z) v2 h1 hg
  refine ⟨p, h1, ⟨fr.st.less hl fun a ha => ⟨fr.st.sub a ha, fun z => h3 (by rw [← z]; exact ha)⟩, by rw [List.length_set]; exact fr.len, fun j d hj => ?_, fun j m hj => ?_, fun j k q hjk v1 v2 n1 n2 g1 g2 => ?_, ⟨fr.en.pre, fr.en.hn, fun a z => fr.en.new a z.1, fr.en.keep, fun a z => ⟨fr.en.up a z, fun e => ?_⟩⟩, fr.sub0, fr.dom0⟩, ⟨⟨[], by simp⟩, fun a z => .inl z.1, fun _ _ e _ => e⟩⟩
  · rcases set_get hj with ⟨rfl, e1, e2⟩ | ⟨e1, e2⟩
    · cases e1
      exact ⟨.ref p, h1, (ObR.mono (o := o) h5 (fun _ h => h) on).frz (fun z => z.2 rfl) h3⟩
    · obtain ⟨v, r1, r2⟩ := fr.va j d e2
      exact ⟨v, r1, on _ _ r2⟩
  · rcases set_get hj with ⟨rfl, e1, e2⟩ | ⟨e1, e2⟩
    · cases e1
    · obtain ⟨q, r1, r2, r3, r4, r5⟩ := fr.own j m e2
      exact ⟨q, r1, ⟨r2, ne j q e1 (by rw [e2]; intro d z; cases z) (by rw [e2]; intro z; cases z) r1⟩, r3, r4, ObR.mono (o := m) r5 (fun _ h => h) on⟩
  · have hj : j ≠ i := fun z => by subst z; exact v1 _ (set_at hi)
    have hk : k ≠ i := fun z => by subst z; exact v2 _ (set_at hi)
    rw [set_ne hj] at v1 n1
    rw [set_ne hk] at v2 n2
    exact fr.inj j k q hjk v1 v2 n1 n2 g1 g2
  · rw [← e] at h4
    exact fr.dom0 a z h4
end DL
namespace DL
open PySem L2
def forR (gd : DG) (body : DS) : List Dv → Env → Sto → Out
  | [], e, S => .nx e S
  | d :: ds, e, S => match gd d e with
    | none => .no
    | some e' => match body e' S with
      | .nx e1 S1 => forR gd body ds e1 S1
      | .ct e1 S1 => forR gd body ds e1 S1
      | .bk e1 S1 => .nx e1 S1
      | o => o
def sFor (fi : DL) (gd : DG) (body : DS) : DS := sBind fi fun e ds S => forR gd body ds e S
theorem rds_bindI {K : Kw} {W : WX} {f : DL} {k : Env → List Dv → Sto → Out} {D : Ends} {g : St} {H : Hp} {P : It → Hp → Prop} (h : rds K W (sBind f k) D g H)
    (n : ∀ (L0 : Addr → Prop) (io0 : List Addr) (H0 : Hp) (L : Addr → Prop) (io : List Addr) (H1 : Hp) (e : Env) (S : Sto) (a : List Dv) (J : It), FR K L0 io0 H0 L io H1 g e S → WalkR K L io H1 J a → outR K W L0 io0 H0 D L io H1 (k e a S) → P J H1) : rdi K W f g H P := by
  obtain ⟨L0, io0, H0, L, io, e, S, fr, h⟩ := h
  unfold sBind at h
  refine ⟨L0, io0, H0, L, io, e, S, fr, ?_⟩
  cases hf : f e S with
  | ok a S1 =>
    rw [hf] at h
    intro v H1 L1 io1 s1 sr1 r1
    exact n L0 io0 H0 L1 io1 H1 e S1 a v (fr.step s1 sr1) r1 (outR.later h (s1.stw fr.st.sub))
  | ex c fs S1 =>
    rw [hf] at h
    exact fun x H' L' io' s sr r => h x g H' L' io' (s.stw fr.st.sub) (fr.step s sr) r
  | no => rw [hf] at h; exact h
theorem rd_for {K : Kw} {W : WX} {fi : DL} {gd : DG} {body : DS} {vs : List Nat} {D : Ends} {g : St} {H : Hp} (h : rds K W (sFor fi gd body) D g H) : tFor (rdi K W fi) (tgR K gd vs) (rds K W body) D g H := by
  refine rds_bindI (k := fun e ds S => forR gd body ds e S) h fun L0 io0 H0 L1 io1 H1 e S ds J fr wk q => ?_
  refine ⟨fun i m g' H' => m = ds.length - i ∧ i ≤ ds.length ∧ ∃ (L' : Addr → Prop) (io' : List Addr) (e' : Env) (S' : Sto), FR K L0 io0 H0 L' io' H' g' e' S' ∧ Stw L1 io1 H1 L' io' H' ∧ outR K W L0 io0 H0 D L' io' H' (forR gd body (ds.drop i) e' S'),
    ⟨ds.length, by simp, Nat.zero_le _, L1, io1, e, S, fr, Stw.refl .., by rw [List.drop_zero]; exact q⟩, ?_⟩
  rintro i m g' H' ⟨rfl, hi, L', io', e', S', fr', sw, q⟩
  by_cases hlt : i < ds.length
  · obtain ⟨d, hd⟩ : ∃ d, ds[i]? = some d := ⟨_, List.getElem?_eq_getElem hlt⟩
    have hdrop : ds.drop i = d :: ds.drop (i + 1) := by
      rw [List.drop_eq_getElem_cons hlt]
      rw [List.getElem?_eq_getElem hlt] at hd
      cases hd
      rfl
    rw [hdrop] at q
    simp only [forR] at q
    obtain ⟨hgo, hy⟩ := wk.go L' io' H' S' i d sw fr'.st hd
    refine .inr ⟨hgo, fun g'' H'' => ∃ m', m' < ds.length - i ∧ (m' = ds.length - (i + 1) ∧ i + 1 ≤ ds.length ∧ ∃ (L' : Addr → Prop) (io' : List Addr) (e' : Env) (S' : Sto), FR K L0 io0 H0 L' io' H'' g'' e' S' ∧ Stw L1 io1 H1 L' io' H'' ∧ outR K W L0 io0 H0 D L' io' H'' (forR gd body (ds.drop (i + 1)) e' S')), fun _ _ h => h, fun x H2 y => ?_⟩
    obtain ⟨sr2, sp2, r2⟩ := hy x H2 y
    have fr2 := fr'.step sp2 sr2
    have sw2 := sw.trans (sp2.stw fr'.st.sub)
    cases hg : gd d e' with
    | none => rw [hg] at q; exact q.elim
    | some e2 =>
      rw [hg] at q
      simp only at q
      refine ⟨L0, io0, H0, L', io', e', S', d, e2, fr2, r2, hg, fun g3 fr3 _ _ => ⟨L0, io0, H0, L', io', e2, S', fr3, ?_⟩⟩
      cases hb : body e2 S' with
      | nx e1 S1 =>
        rw [hb] at q
        exact fun g4 H4 L4 io4 s4 fr4 => ⟨_, by omega, rfl, hlt, L4, io4, e1, S1, fr4, sw2.trans s4, outR.later q ((sp2.stw fr'.st.sub).trans s4)⟩
      | ct e1 S1 =>
        rw [hb] at q
        exact fun g4 H4 L4 io4 s4 fr4 => ⟨_, by omega, rfl, hlt, L4, io4, e1, S1, fr4, sw2.trans s4, outR.later q ((sp2.stw fr'.st.sub).trans s4)⟩
      | bk e1 S1 =>
        rw [hb] at q
        exact fun g4 H4 L4 io4 s4 fr4 => q g4 H4 L4 io4 ((sp2.stw fr'.st.sub).trans s4) fr4
      | rt d1 S1 => rw [hb] at q; exact q
      | ex c fs e1 S1 =>
        rw [hb] at q
        exact fun x g4 H4 L4 io4 s4 fr4 r4 => q x g4 H4 L4 io4 ((sp2.stw fr'.st.sub).trans s4) fr4 r4
      | no => rw [hb] at q; exact q
  · have ei : i = ds.length := by omega
    subst ei
    rw [List.drop_length] at q
    exact .inl ⟨wk.stop L' io' H' sw, q g' H' L' io' (Stw.refl ..) fr'⟩
section
variable {X : Cx} {W : WX} {pos : Pos} {tg iter : Expr} {body : List Stmt} {fi : DL} {gd : DG} {fb : DS} {vs : List Nat}
theorem qs_for (hp : PassesOwn (model X.prog X.w) X.A X.env X.xe) (hc : X.calm = true) (hi : QI X W tg iter fi) (hg : QG X tg gd vs) (hb : QSs X W body fb) (hs : ∀ x, foldedSetIterable iter X.env x = pure x := by intro _; rfl) : QS X W (.For tg iter body [] pos) (sFor fi gd fb) :=
  ps_imp (ps_for hp hc hi hg.canon hb hs) fun D g H h => rd_for h
/-- a slot's own list is changed -/
theorem FR.ownO {K : Kw} {L0 L : Addr → Prop} {io0 io : List Addr} {H0 H : Hp} {g : St} {e : Env} {S : Sto} (fr : FR K L0 io0 H0 L io H g e S) {i : Nat} {o o' : Ob} {p : Addr} {u : HO} (h : e[i]? = some (.own o)) (hg : g[i]? = some (some (.ref p))) (lp : L p) (np : p ∉ io) (h0 : H0 p = none) (r : ObR K L io (upd H p u) p o') :
    FR K L0 io0 H0 L io (upd H p u) g (e.set i (.own o')) S := by
  have hi : i < e.length := (List.getElem?_eq_some_iff.mp h).1
  have eg : g.set i (some (.ref p)) = g := by
    apply List.ext_getElem?
    intro k
    rw [List.getElem?_set]
    by_cases hk : i = k
    · subst hk
      rw [if_pos rfl, if_pos (by rw [fr.len]; exact hi), hg]
    · rw [if_neg hk]
  have f1 := (fr.setN i (some (.ref p))).mutD (o := u) lp np h0 fun j q v1 v2 v3 hj => by
    have hji : j ≠ i := fun z => by subst z; exact v2 (set_at hi)
    rw [set_ne hji] at v1 v2 v3 hj
    intro z
    subst z
    exact fr.inj i j q (fun z => hji z.symm) (by rw [h]; intro d z; cases z) v1 (by rw [h]; intro z; cases z) v2 hg hj
  have f2 := f1.setS i (x := some (.ref p)) (s := .own o') (fun d z => by cases z) (fun l2 z => by cases z; exact ⟨p, rfl, lp, np, h0, r⟩) fun q _ _ hq j hj v1 v2 hgj => by
    cases hq
    rw [set_ne hj] at v1 v2 hgj
    exact fr.inj i j p (fun z => hj z.symm) (by rw [h]; intro d z; cases z) v1 (by rw [h]; intro z; cases z) v2 hg hgj
  rw [List.set_set, List.set_set, eg] at f2
  exact f2
theorem FR.ownL {K : Kw} {L0 L : Addr → Prop} {io0 io : List Addr} {H0 H : Hp} {g : St} {e : Env} {S : Sto} (fr : FR K L0 io0 H0 L io H g e S) {i : Nat} {l l' : List Dv} {p : Addr} {ys : List V} (h : e[i]? = some (.ow l)) (hg : g[i]? = some (some (.ref p))) (lp : L p) (np : p ∉ io) (h0 : H0 p = none) (r : VRs K L io H ys l') :
    FR K L0 io0 H0 L io (upd H p (.lst ys)) g (e.set i (.ow l')) S := fr.ownO h hg lp np h0 ⟨ys, upd_same, r.mut lp⟩
end
/-- a list's method by data: the list, the arguments; the list behind it, the answer -/
def OwnS (K : Kw) (r : V → List V → Hp → VK → Prop) (h : List Dv → List Dv → Option (List Dv × Dv)) : Prop :=
  ∀ (L : Addr → Prop) (io : List Addr) (H : Hp) (S : Sto) (p : Addr) (xs : List V) (l : List Dv) (vs : List V) (as l' : List Dv) (d : Dv) (Q : VK), SR K L io H S → H p = some (.lst xs) → L p → VRs K L io H xs l → VRs K L io H vs as → h l as = some (l', d) →
    (∀ ys v, VRs K L io H ys l' → VR K L io H v d → Q v (upd H p (.lst ys))) → r (.ref p) vs H Q
def sOwnM (h : List Dv → List Dv → Option (List Dv × Dv)) (i : Nat) (fa : DA) : DS := fun e S => match e[i]? with
  | some (.own (.lst l)) => sBind fa (fun e as S => match h l as with
    | some (l', _) => .nx (e.set i (.ow l')) S
    | none => .no) e S
  | _ => .no
theorem rd_ownM {K : Kw} {W : WX} {r : V → List V → Hp → VK → Prop} {h : List Dv → List Dv → Option (List Dv × Dv)} (hs : OwnS K r h) {fa : DA} {i : Nat} {D : Ends} {g : St} {H : Hp} (q : rds K W (sOwnM h i fa) D g H) : tDrop (tBM K "list" r (tVar i) (rda K W fa)) D g H := by
  obtain ⟨L0, io0, H0, L, io, e, S, fr, q⟩ := q
  unfold sOwnM at q
  cases hi : e[i]? with
  | none => rw [hi] at q; exact q.elim
  | some sl =>
    by_cases hl : ∃ l, sl = .ow l
    · obtain ⟨l, rfl⟩ := hl
      rw [hi] at q
      simp only at q
      obtain ⟨p, xs, h1, h2, h3, h4, h5, h6⟩ := fr.ow i l hi
      refine ⟨.ref p, h1, .inl ⟨rfl, xs, SqL.of h5⟩, ?_⟩
      refine ⟨L0, io0, H0, L, io, e, S, fr, ?_⟩
      simp only [sBind] at q
      cases hf : fa e S with
      | no => rw [hf] at q; exact q
      | ex c fs S1 => rw [hf] at q; exact fun x H' L' io' s sr r => q x g H' L' io' (s.stw fr.st.sub) (fr.step s sr) r
      | ok as S1 =>
        rw [hf] at q
        intro vs H1 L1 io1 s1 sr1 r1
        simp only at q
        cases hh : h l as with
        | none => rw [hh] at q; exact q.elim
        | some z =>
          obtain ⟨l', d⟩ := z
          rw [hh] at q
          have fr1 := fr.step s1 sr1
          have np : p ∉ io1 := fun z => by
            rcases s1.hn p z with q | q
            · exact h3 q
            · rw [q] at h5; cases h5
          refine hs L1 io1 H1 S1 p xs l vs as l' d _ sr1 (s1.keep p _ h5 h3) (s1.up p h2) (h6.step s1 fr.st.sub) r1 hh fun ys v ry rv => ?_
          exact q g _ L1 io1 ((s1.stw fr.st.sub).trans (Stw.mut (s1.up p h2))) (fr1.ownL hi h1 (s1.up p h2) np h4 ry)
    · rw [hi] at q
      rcases sl with _ | _ | (l | _ | _ | _ | _)
      · exact q.elim
      · exact q.elim
      · exact absurd ⟨l, rfl⟩ hl
      · exact q.elim
      · exact q.elim
      · exact q.elim
      · exact q.elim
theorem SR.setH {K : Kw} {L : Addr → Prop} {io : List Addr} {H : Hp} {S : Sto} {k : Nat} {a : Addr} {ob : Ob} {o : HO} (sr : SR K L io H S) (hk : io[k]? = some a) (r : ObR K L io (upd H a o) a ob) : SR K L io (upd H a o) (S.set k ob) := by
  have la : L a := sr.sub a (List.mem_of_getElem? hk)
  refine ⟨by rw [List.length_set]; exact sr.len, sr.nd, sr.sub, fun b hb => ?_, fun j b u h1 h2 => ?_⟩
  · by_cases e : b = a
    · rw [e, upd_same]; exact fun z => nomatch z
    · rw [upd_ne e]; exact sr.dom b hb
  · rcases set_get h2 with ⟨rfl, rfl, _⟩ | ⟨e1, e2⟩
    · rw [hk] at h1; cases h1; exact r
    · refine (sr.obj j b u h1 e2).mono (fun z ez => ?_) fun v d rv => rv.mut la
      rw [upd_ne (fun z => e1 ?_)]
      · exact ez
      · rw [← z] at hk
        obtain ⟨q1, q2⟩ := List.getElem?_eq_some_iff.mp h1
        obtain ⟨q3, q4⟩ := List.getElem?_eq_some_iff.mp hk
        exact (List.getElem_inj sr.nd).mp (q2.trans q4.symm)
theorem Stp.mutH {L : Addr → Prop} {io : List Addr} {H : Hp} {a : Addr} {o : HO} (h : a ∈ io) : Stp L io H L io (upd H a o) :=
  ⟨⟨[], by simp⟩, fun _ h => .inl h, fun _ h => .inl h, fun b u e n => by rw [upd_ne (fun z => n (by rw [z]; exact h))]; exact e, fun _ h => h⟩
def hdlM (h : List Dv → List Dv → Option (List Dv × Dv)) (S : Sto) (o : Dv) (as : List Dv) : Res Dv := match o with
  | .hdl k => match S[k]? with
    | some (.lst l) => match h l as with
      | some (l', d) => .ok d (S.set k (.lst l'))
      | none => .no
    | _ => .no
  | _ => .no
def lstHd (S : Sto) : Dv → Bool
  | .hdl k => match S[k]? with
    | some (.lst _) => true
    | _ => false
  | _ => false
def eHdlM (h : List Dv → List Dv → Option (List Dv × Dv)) (fo : DE) (fa : DA) : DE := fun e S => bnd (fo e S) fun o S1 => if lstHd S1 o then bnd (fa e S1) fun as S2 => hdlM h S2 o as else .no
theorem rd_hdlM {K : Kw} {W : WX} {r : V → List V → Hp → VK → Prop} {h : List Dv → List Dv → Option (List Dv × Dv)} (hs : OwnS K r h) {fo : DE} {fa : DA} {g : St} {H : Hp} {Q : VK} (q : rd K W (eHdlM h fo fa) g H Q) : tBM K "list" r (rd K W fo) (rda K W fa) g H Q := by
  refine Rdg.bind (R := VR K) (k := fun e o S1 => if lstHd S1 o then bnd (fa e S1) fun as S2 => hdlM h S2 o as else .no) q fun L0 io0 H0 L io H1 e S o v fr ro q => ?_
  cases hl : lstHd S o with
  | false => rw [hl] at q; exact q.elim
  | true =>
    rw [hl] at q
    cases o with
    | hdl k =>
      cases ro with
      | hdl hk =>
        rename_i a
        simp only [lstHd] at hl
        cases hS : S[k]? with
        | none => rw [hS] at hl; cases hl
        | some ob =>
          rw [hS] at hl
          cases ob with
          | lst l =>
            obtain ⟨xs, e1, _⟩ := fr.st.obj k a _ hk hS
            refine ⟨.inl ⟨rfl, xs, SqL.of e1⟩, ?_⟩
            refine Fin.bind (R := VRs K) (k := fun as S2 => hdlM h S2 (.hdl k) as) fr q fun L2 io2 H2 S2 as vs s2 fr2 r2 q => ?_
            simp only [hdlM] at q
            have hk2 : io2[k]? = some a := by
              obtain ⟨m, rfl⟩ := s2.pre
              exact io_keep hk
            cases hS2 : S2[k]? with
            | none => rw [hS2] at q; exact q.elim
            | some ob2 =>
              rw [hS2] at q
              cases ob2 with
              | lst l2 =>
                simp only at q
                cases hh : h l2 as with
                | none => rw [hh] at q; exact q.elim
                | some z =>
                  obtain ⟨l', d⟩ := z
                  rw [hh] at q
                  obtain ⟨ys, e2, r3⟩ := fr2.st.obj k a _ hk2 hS2
                  have ma : a ∈ io2 := List.mem_of_getElem? hk2
                  have la : L2 a := fr2.st.sub a ma
                  refine hs L2 io2 H2 S2 a ys l2 vs as l' d Q fr2.st e2 la r3 r2 hh fun zs w rz rw' => ?_
                  exact q w _ L2 io2 (Stp.mutH ma) (fr2.st.setH hk2 ⟨zs, upd_same, rz.mut la⟩) (rw'.mut la)
              | _ => exact q.elim
          | _ => cases hl
    | _ => simp [lstHd] at hl
/-- append, extend, insert, reverse -/
def appD (l as : List Dv) : Option (List Dv × Dv) := match as with
  | [d] => if l.length < sizeLine then some (l ++ [d], .non) else none
  | _ => none
theorem owns_app {K : Kw} : OwnS K rAppend appD := by
  intro L io H S p xs l vs as l' d Q sr hp lp rx ra hh q
  cases ra with
  | nil => cases hh
  | cons r t =>
    cases t with
    | cons => cases hh
    | nil =>
      simp only [appD] at hh
      split at hh
      · rename_i hl
        cases hh
        exact ⟨p, xs, _, rfl, rfl, hp, by rw [rx.len]; exact hl, q _ _ (rx.app (.cons r .nil)) .non⟩
      · cases hh
section
variable {X : Cx} {W : WX} {pos apos cpos p1 : Pos} {a o e : Expr} {es : List Expr} {f fo fv : DE} {fa : DA} {x name : Str} {id : String} {r : V → List V → Hp → VK → Prop} {h : List Dv → List Dv → Option (List Dv × Dv)}
/-- found.m(..), found the slot's own -/
theorem qs_ownM (i : Nat) (slot : Slot "list" name id) (hty : typeOf (.builtin id) = pure (.type "method_descriptor")) (hm : MtR X id r) (hs : OwnS X.kw r h) (ha : QA X W (e :: es) fa)
    (hN : X.N[i]? = some x := by rfl) (hv : Vis X.env.scope x := by first | exact Or.inl rfl | exact Or.inr (Or.inl rfl) | exact Or.inr (Or.inr rfl))
    (hd : (x == ("__debug__" : Str)) = false := by decide) (hcd : (x == ("__classdict__" : Str)) = false := by decide)
    (hbase : attributeBase (.Name x p1) name X.env (eval (.Name x p1) X.env) = eval (.Name x p1) X.env := by rfl)
    (hfew : ((backTo cpos (starEach (e :: es) X.env)).all (fun x => !x.1) && (backToKw cpos (keywordEach [] X.env)).all (fun x => x.1.isSome)
      && decide ((e :: es).length + ([] : List Keyword).length + (if ([] : List Keyword).isEmpty then 0 else 1) < 30)) = true := by rfl)
    (hline : (apos.endLine == cpos.line) = true := by rfl) (hst : starEach (e :: es) X.env = (false, eval e X.env) :: starEach es X.env := by rfl) (hplain : (backTo cpos (starEach es X.env)).any (·.1) = false := by rfl)
    (hsw : swapsWith (.Call (.Attribute (.Name x p1) name apos) (e :: es) [] cpos) none pos.line X.env = pure false := by rfl) :
    QS X W (.Expr (.Call (.Attribute (.Name x p1) name apos) (e :: es) [] cpos) pos) (sOwnM h i fa) := ps_imp (ps_expr (pe_bm PySem.F.plainAttrs_list slot hty hm (pe_var hN hv hd hcd) ha hbase hfew hline hst hplain) hsw) fun D g H q => rd_ownM hs q
theorem qe_hdlM (slot : Slot "list" name id) (hty : typeOf (.builtin id) = pure (.type "method_descriptor")) (hm : MtR X id r) (hs : OwnS X.kw r h) (ho : QE X W o fo) (ha : QA X W (e :: es) fa)
    (hbase : attributeBase o name X.env (eval o X.env) = eval o X.env := by rfl)
    (hfew : ((backTo cpos (starEach (e :: es) X.env)).all (fun x => !x.1) && (backToKw cpos (keywordEach [] X.env)).all (fun x => x.1.isSome)
      && decide ((e :: es).length + ([] : List Keyword).length + (if ([] : List Keyword).isEmpty then 0 else 1) < 30)) = true := by rfl)
    (hline : (apos.endLine == cpos.line) = true := by rfl) (hst : starEach (e :: es) X.env = (false, eval e X.env) :: starEach es X.env := by rfl) (hplain : (backTo cpos (starEach es X.env)).any (·.1) = false := by rfl) :
    QE X W (.Call (.Attribute o name apos) (e :: es) [] cpos) (eHdlM h fo fa) := pe_imp (pe_bm PySem.F.plainAttrs_list slot hty hm ho ha hbase hfew hline hst hplain) fun g H Q q => rd_hdlM hs q
end
end DL
namespace DL
open PySem L2
theorem outR.bind {α β : Type} {K : Kw} {W : WX} {R : (Addr → Prop) → List Addr → Hp → β → α → Prop} {f : Env → Sto → Res α} {k : Env → α → Sto → Out} {D : Ends} {g : St} {L0 L : Addr → Prop} {io0 io : List Addr} {H0 H : Hp} {e : Env} {S : Sto} {P : β → Hp → Prop}
    (fr : FR K L0 io0 H0 L io H g e S) (h : outR K W L0 io0 H0 D L io H (sBind f k e S))
    (n : ∀ (L1 : Addr → Prop) (io1 : List Addr) (H1 : Hp) (S1 : Sto) (a : α) (v : β), Stp L io H L1 io1 H1 → FR K L0 io0 H0 L1 io1 H1 g e S1 → R L1 io1 H1 v a → outR K W L0 io0 H0 D L1 io1 H1 (k e a S1) → P v H1) : Rdg K W R f g H P := by
  unfold sBind at h
  refine ⟨L0, io0, H0, L, io, e, S, fr, ?_⟩
  cases hf : f e S with
  | ok a S1 =>
    rw [hf] at h
    intro v H1 L1 io1 s1 sr1 r1
    exact n L1 io1 H1 S1 a v s1 (fr.step s1 sr1) r1 (outR.later h (s1.stw fr.st.sub))
  | ex c fs S1 =>
    rw [hf] at h
    exact fun x H' L' io' s sr r => h x g H' L' io' (s.stw fr.st.sub) (fr.step s sr) r
  | no => rw [hf] at h; exact h
def setD (S : Sto) (o i v : Dv) : Option Sto := match o, i with
  | .hdl k, .int n => match S[k]? with
    | some (.lst l) => match ixN l.length n with
      | some j => some (S.set k (.lst (l.set j v)))
      | none => none
    | _ => none
  | _, _ => none
theorem setD_ok {K : Kw} {L : Addr → Prop} {io : List Addr} {H : Hp} {S S' : Sto} {o i v : Dv} {vo vi vv : V} (sr : SR K L io H S) (ro : VR K L io H vo o) (ri : VR K L io H vi i) (rv : VR K L io H vv v) (h : setD S o i v = some S') {Q : Hp → Prop}
    (q : ∀ H', Stp L io H L io H' → SR K L io H' S' → Q H') : rSetL vo vi vv H Q := by
  cases o with
  | hdl k =>
    cases i with
    | int n =>
      simp only [setD] at h
      cases hS : S[k]? with
      | none => rw [hS] at h; cases h
      | some ob =>
        rw [hS] at h
        cases ob with
        | lst l =>
          simp only at h
          cases hj : ixN l.length n with
          | none => rw [hj] at h; cases h
          | some j =>
            rw [hj] at h
            cases h
            cases ri
            cases ro with
            | hdl hk =>
              rename_i a
              obtain ⟨xs, e1, r1⟩ := sr.obj k a _ hk hS
              have ma : a ∈ io := List.mem_of_getElem? hk
              refine ⟨a, xs, n, j, rfl, rfl, e1, by rw [r1.len]; exact hj, ?_⟩
              exact q _ (Stp.mutH ma) (sr.setH hk ⟨_, upd_same, (VRs.set rv j r1).mut (sr.sub a ma)⟩)
        | _ => cases h
    | _ => cases h
  | _ => cases h
def sSetI (fo fi fv : DE) : DS := sBind fv fun e v S1 => sBind fo (fun e o S2 => sBind fi (fun e i S3 => match setD S3 o i v with
  | some S4 => .nx e S4
  | none => .no) e S2) e S1
section
variable {X : Cx} {W : WX} {pos tpos : Pos} {a o i : Expr} {fo fi fv : DE}
theorem qs_setI (ho : QE X W o fo) (hi : QE X W i fi) (hv : QE X W a fv)
    (hp : ∀ {to ti tv}, PE X o to → PE X i ti → PE X a tv → PS X (.Assign [.Subscript o i tpos] a pos) (tAsg tv (gSub to ti rSetL)) := by intro _ _ _ h1 h2 h3; exact ps_asg h3 (pg_sub h1 h2 set_list)) : QS X W (.Assign [.Subscript o i tpos] a pos) (sSetI fo fi fv) := ps_imp (hp ho hi hv) fun D g H h => by
  refine rds_bind (R := VR X.kw) (k := fun e v S1 => sBind fo (fun e o S2 => sBind fi (fun e i S3 => match setD S3 o i v with
    | some S4 => .nx e S4
    | none => .no) e S2) e S1) h fun L0 io0 H0 L io H1 e S d v fr rv q => ?_
  refine outR.bind (R := VR X.kw) (k := fun e o S2 => sBind fi (fun e i S3 => match setD S3 o i d with
    | some S4 => .nx e S4
    | none => .no) e S2) fr q fun L2 io2 H2 S2 od vo s2 fr2 ro q => ?_
  refine outR.bind (R := VR X.kw) (k := fun e i S3 => match setD S3 od i d with
    | some S4 => .nx e S4
    | none => .no) fr2 q fun L3 io3 H3 S3 id vi s3 fr3 ri q => ?_
  cases hS : setD S3 od id d with
  | none => rw [hS] at q; exact q.elim
  | some S4 =>
    rw [hS] at q
    exact setD_ok fr3.st (ro.step s3 fr2.st.sub) ri ((rv.step s2 fr.st.sub).step s3 fr2.st.sub) hS fun H' s sr => q g H' L3 io3 (s.stw fr3.st.sub) (fr3.step s sr)
theorem get_list : PGet X (rIxL X.kw) := by
  intro pins s g H x y v u Q I rx ry h
  obtain ⟨p, xs, i, z, rfl, rfl, hq, he, q⟩ := h
  cases rx
  obtain ⟨t, rfl⟩ := ry
  obtain ⟨its, r, pl, hz⟩ := I.list hq
  obtain ⟨j, h1, h2, h3, h4, h5⟩ := atI_get he
  obtain ⟨w, ew, rw'⟩ := r.get h2
  have hl := r.length
  have hn := line63
  have fin : EP X pins g Q w s := ⟨z, H, I, rw', q⟩
  by_cases h0 : 0 ≤ i
  · have hj : i.toNat = j := by
      rw [seqIndex_of h0 h5] at h1
      exact Option.some.inj h1
    exact wpAny_getItem_list pl.isList h0 (by omega) (by rw [hj]; simpa using ew) fin
  · have hj : (i + (its.toArray.size : Int)).toNat = j := by
      rw [seqIndex_neg (by omega) h4] at h1
      rw [List.size_toArray, ← hl]
      exact Option.some.inj h1
    exact wpAny_getItem_list_neg pl.isList (by omega) (by rw [List.size_toArray] <;> omega) (by omega) (by rw [hj]; simpa using ew) fin
def ixL (S : Sto) (d i : Dv) : Option Dv := match i with
  | .int i => (asL S d).bind fun l => atI l i
  | _ => none
def addI : Dv → Dv → Option Dv := iop fun i j => some (.int (i + j))
def subI : Dv → Dv → Option Dv := iop fun i j => some (.int (i - j))
def sAugI (op : Dv → Dv → Option Dv) (fo fi fv : DE) : DS := sBind fo fun e o S1 => sBind fi (fun e i S2 => match ixL S2 o i with
  | some x => sBind fv (fun e y S3 => match op x y with
    | some z => (match setD S3 o i z with
      | some S4 => .nx e S4
      | none => .no)
    | none => .no) e S2
  | none => .no) e S1
def IpS (K : Kw) (t : TIp) (op : Dv → Dv → Option Dv) : Prop := ∀ L io H x y a b d (Q : VK), VR K L io H x a → VR K L io H y b → op a b = some d → (∀ v, VR K L io H v d → Q v H) → t x y H Q
theorem ips_add {K : Kw} : IpS K (ipI fun i j => i + j) addI := by
  intro L io H x y a b d Q ra rb e q
  cases ra with
  | int i =>
    cases rb with
    | int j => cases e; exact ⟨i, j, rfl, rfl, q _ (.int _)⟩
    | _ => cases e
  | _ => cases e
theorem qs_augI {op : Operator} {tip : TIp} {od : Dv → Dv → Option Dv} (hop : PIp X op tip) (hod : IpS X.kw tip od) (ho : QE X W o fo) (hi : QE X W i fi) (hv : QE X W a fv)
    (ha : ∀ ov iv new, augStore i ov iv new = (do holding [new, ov, iv] (setItem ov iv new); release [new, ov, iv] []; pure .next) := by intros; rfl) : QS X W (.AugAssign (.Subscript o i tpos) op a pos) (sAugI od fo fi fv) := ps_imp (ps_augS ho hi get_list hv hop set_list ha) fun D g H h => by
  refine rds_bind (R := VR X.kw) (k := fun e o S1 => sBind fi (fun e i S2 => match ixL S2 o i with
    | some x => sBind fv (fun e y S3 => match od x y with
      | some z => (match setD S3 o i z with
        | some S4 => .nx e S4
        | none => .no)
      | none => .no) e S2
    | none => .no) e S1) h fun L0 io0 H0 L io H1 e S d v fr rv q => ?_
  refine outR.bind (R := VR X.kw) (k := fun e i S2 => match ixL S2 d i with
    | some x => sBind fv (fun e y S3 => match od x y with
      | some z => (match setD S3 d i z with
        | some S4 => .nx e S4
        | none => .no)
      | none => .no) e S2
    | none => .no) fr q fun L2 io2 H2 S2 di vi s2 fr2 ri q => ?_
  have rv2 := rv.step s2 fr.st.sub
  cases hx : ixL S2 d di with
  | none => rw [hx] at q; exact q.elim
  | some x =>
    rw [hx] at q
    simp only at q
    cases di with
    | int n =>
      simp only [ixL] at hx
      cases hl : asL S2 d with
      | none => rw [hl] at hx; cases hx
      | some l =>
        rw [hl] at hx
        obtain ⟨p, xs, rfl, hs, t⟩ := asL_ok fr2.st rv2 hl
        obtain ⟨w, h3, h4⟩ := t.atI hx
        cases ri
        refine ⟨p, xs, n, w, rfl, rfl, hs, h3, ?_⟩
        refine outR.bind (R := VR X.kw) (k := fun e y S3 => match od x y with
          | some z => (match setD S3 d (.int n) z with
            | some S4 => .nx e S4
            | none => .no)
          | none => .no) fr2 q fun L3 io3 H3 S3 dy vy s3 fr3 ry q => ?_
        cases hz : od x dy with
        | none => rw [hz] at q; exact q.elim
        | some z =>
          rw [hz] at q
          simp only at q
          refine hod L3 io3 H3 w vy x dy z _ (h4.step s3 fr2.st.sub) ry hz fun vz rz => ?_
          cases hS : setD S3 d (.int n) z with
          | none => rw [hS] at q; exact q.elim
          | some S4 =>
            rw [hS] at q
            exact setD_ok fr3.st (rv2.step s3 fr2.st.sub) (.int n) rz hS fun H' s sr => q g H' L3 io3 (s.stw fr3.st.sub) (fr3.step s sr)
    | _ => cases hx
/-- x += e -/
def sAug (op : Dv → Dv → Option Dv) (n : Nat) (fv : DE) : DS := fun e S => match e[n]? with
  | some (.va x) => sBind fv (fun e y S1 => match op x y with
    | some z => .nx (e.set n (.va z)) S1
    | none => .no) e S
  | _ => .no
end
def startE (n : Nat) (l : List Dv) : Env := l.map Sl.va ++ List.replicate (n - l.length) .no
def runF (np n : Nat) (fb : DS) : DF := fun S l => if l.length = np then (match fb (startE n l) S with
  | .rt d S' => .ok d S'
  | .nx _ S' => .ok .non S'
  | .ex c fs _ S' => .ex c fs S'
  | _ => .no) else .no
theorem VRs.map_get {K : Kw} {L : Addr → Prop} {io : List Addr} {H : Hp} {vs : List V} {l : List Dv} (r : VRs K L io H vs l) {i : Nat} {d : Dv} {n m : Nat} (h : (l.map Sl.va ++ List.replicate n Sl.no)[i]? = some (.va d)) : ∃ v, (vs.map some ++ List.replicate m (none : Option V))[i]? = some (some v) ∧ VR K L io H v d := by
  by_cases hi : i < l.length
  · rw [List.getElem?_append_left (by rw [List.length_map]; exact hi), List.getElem?_map] at h
    cases q : l[i]? with
    | none => rw [q] at h; cases h
    | some z =>
      rw [q] at h
      cases h
      obtain ⟨v, h1, h2⟩ := r.get q
      refine ⟨v, ?_, h2⟩
      rw [List.getElem?_append_left (by rw [List.length_map, r.len]; exact hi), List.getElem?_map, h1]
      rfl
  · rw [List.getElem?_append_right (by rw [List.length_map]; omega), List.getElem?_replicate] at h
    split at h <;> cases h
theorem start_no {l : List Dv} {n i : Nat} {s : Sl} (h : (l.map Sl.va ++ List.replicate n Sl.no)[i]? = some s) : (∃ d, s = .va d) ∨ s = .no := by
  by_cases hi : i < l.length
  · rw [List.getElem?_append_left (by rw [List.length_map]; exact hi), List.getElem?_map] at h
    cases q : l[i]? with
    | none => rw [q] at h; cases h
    | some z => rw [q] at h; cases h; exact .inl ⟨z, rfl⟩
  · rw [List.getElem?_append_right (by rw [List.length_map]; omega), List.getElem?_replicate] at h
    split at h
    · cases h; exact .inr rfl
    · cases h
theorem fr_start {K : Kw} {L : Addr → Prop} {io : List Addr} {H : Hp} {S : Sto} {vs : List V} {l : List Dv} {N : List Str} (sr : SR K L io H S) (r : VRs K L io H vs l) : FR K L io H L io H (L2.start N vs) (startE N.length l) S where
  st := sr
  len := by
    unfold L2.start startE
    rw [List.length_append, List.length_append, List.length_map, List.length_map, List.length_replicate, List.length_replicate, r.len]
  va := fun i d h => r.map_get h
  own := fun i m h => by rcases start_no h with ⟨d, z⟩ | z <;> cases z
  inj := fun i j p _ v1 _ n1 _ g1 _ => by
    cases h : (startE N.length l)[i]? with
    | none =>
      have h1 := List.getElem?_eq_none_iff.mp h
      have h2 := (List.getElem?_eq_some_iff.mp g1).1
      unfold L2.start at h2
      unfold startE at h1
      rw [List.length_append, List.length_map, List.length_replicate] at h1 h2
      rw [r.len] at h2
      omega
    | some s =>
      rcases start_no h with ⟨d, z⟩ | z
      · rw [z] at h; exact absurd h (v1 d)
      · rw [z] at h; exact absurd h n1
  en := Stp.refl ..
  sub0 := sr.sub
  dom0 := sr.dom
section
variable {P : Program} {w : World} {K : Kw} {mg : Str → Option Value} {base : Heap} {CX : CXT} {name qual : Str} {params : Arguments} {body : List Stmt} {scope : Scope} {dvs : List V} {kws : List (Str × V)} {f : Addr} {fd : FuncData} {N ps : List Str} {k : Nat} {fb : DS}
/-- what leaves the frame -/
theorem leave {L0 L : Addr → Prop} {io0 io : List Addr} {H0 H : Hp} {S : Sto} (sr : SR K L io H S) (s : Stp L0 io0 H0 L io H) (sub0 : ∀ a ∈ io0, L0 a) : Stp L0 io0 H0 (Lx L0 io) io H ∧ SR K (Lx L0 io) io H S ∧ (∀ a, Lx L0 io a → L a) := by
  have hl : ∀ a, Lx L0 io a → L a := fun a z => z.elim (s.up a) (sr.sub a)
  refine ⟨⟨s.pre, s.hn, fun a z => z.elim .inl fun z => (s.hn a z).elim (fun q => .inl (sub0 a q)) .inr, s.keep, fun a z => .inl z⟩, sr.less hl fun a z => .inr z, hl⟩
/-- a def of the text, by its body's walk: as fn_of, the calls' room without guards -/
theorem fng_of {dV kV doc pm cdv ct oc : Value} {an od : Option Addr} {osl : Array (Option Value)} {sp : Sp} (lk : K.lookup f = some ⟨oc, od, .func (PySem.W.fnOf name qual params body scope dV kV doc pm an cdv ct), osl⟩) (hc : PySem.W.codeIn K cdv qual = true) (Sc : FnScope N ps scope)
    (hl : ∀ vs H Q E, sp vs H Q E → vs.length = ps.length)
    (hb : ∀ (A : Around) (up : List PySem.Env) (s : Shared) (H : Hp) (vs : List V) (Q : VK) (E : XK), RoomG k (A.deeper (PyProof.Rows.envOfC qual scope s.heap.objs.size f cdv)) → sp vs H Q E →
      ∃ t, PSs (cxOf (L2.CX P K.w) P K.w K mg base N qual scope f cdv A up s H E) body t ∧ t { nx := fun _ H' => Q .non H', rt := Q } (L2.start N vs) H) :
    FnG P K.w K mg base (k + 1) f (PySem.W.fnOf name qual params body scope dV kV doc pm an cdv ct) ps sp := by
  constructor
  · exact hl
  intro A up s H args us vs Q E room e0 bd rv q
  have kin := e0.mod.kin.keeps fun b o z => (e0.bs b o z).1
  have nol := e0.mod.nolimit.keeps fun b o z => (e0.bs b o z).1
  have kinds : ∀ y ∈ ps.zip us, scope.names.lookup y.1 = some .local ∨ (scope.names.lookup y.1 = some .cell ∧ ((PySem.cellsFrom (s.heap.objs.size + 1) scope.names []).lookup y.1).isSome = true) := by
    rintro ⟨n, v⟩ hy
    have := Sc.par n (List.of_mem_zip hy).1
    rcases this with z | z
    · exact .inl z
    · exact .inr ⟨z, PySem.W.cellsFrom_some _ _ _ (.inl z)⟩
  refine codeAny_call_function room.r.depth (kin _ _ lk) rfl Sc.co Sc.gen rfl (PySem.W.codeRec_of kin hc) (bd _ _ _ _ ?_)
  refine wpAny_newFunctionEnv_cells Sc.kind kinds fun env he s1 x => ?_
  cases he
  obtain ⟨t, ht, hq⟩ := hb A up s H vs Q E (room.deeper _) q
  have I0 := inv_start (CX := L2.CX P K.w) (E := E) Sc room.r.hd e0 (hl _ _ _ _ q) rv x
  refine ⟨nol.keeps x.toInCall.keep, codeAny_func (wpAny_mono (ht.run [] s1 _ H _ I0 hq) ?_ fun _ _ z => z)⟩
  intro fl s' z
  match fl, z with
  | .ret u, ⟨v, g', H', J, r, q⟩ => exact ⟨v, H', J.os, J.bare, J.base, J.hok, r, q⟩
  | .next, ⟨g', H', J, q⟩ => exact ⟨.non, H', J.os, J.bare, J.base, J.hok, rfl, q⟩
  | .brk, ⟨_, _, _, q⟩ => exact q.elim
  | .cont, ⟨_, _, _, q⟩ => exact q.elim
/-- the body of a def as a piece over data -/
abbrev BodyG (P : Program) (w : World) (K : Kw) (mg : Str → Option Value) (base : Heap) (N : List Str) (qual : Str) (scope : Scope) (f : Addr) (k : Nat) (body : List Stmt) (fb : DS) : Prop :=
  ∀ (cdv : Value) (A : Around) (up : List PySem.Env) (s : Shared) (H : Hp) (E : XK), RoomG k (A.deeper (PyProof.Rows.envOfC qual scope s.heap.objs.size f cdv)) → Takes (cxOf (L2.CX P w) P w K mg base N qual scope f cdv A up s H E) (fun c d _ H => E c d H) →
    PassesOwn (model P w) (A.deeper (PyProof.Rows.envOfC qual scope s.heap.objs.size f cdv)) (PyProof.Rows.envOfC qual scope s.heap.objs.size f cdv) (cxOf (L2.CX P w) P w K mg base N qual scope f cdv A up s H E).xe →
    QSs (cxOf (L2.CX P w) P w K mg base N qual scope f cdv A up s H E) (fun c d _ H => E c d H) body fb
theorem fn_mk (F : FunD K name qual params body scope dvs kws f fd) (Sc : FnScope N ps scope) (hb : BodyG P K.w K mg base N qual scope f k body fb) :
    FnG P K.w K mg base (k + 1) f fd ps (spD K (runF ps.length N.length fb)) := by
  obtain ⟨oc, od, dV, kV, doc, pm, an, cdv, ct, osl, rfl, lk, hcd, _, _⟩ := F.ex
  refine fng_of lk hcd Sc (fun vs H Q E h => ?_) fun A outer s H vs Q E hr h => ⟨_, hb cdv A outer s H E hr (takes_of rfl rfl rfl rfl) (passes_of rfl), ?_⟩
  · obtain ⟨L, io, S, l, sr, r, h⟩ := h
    unfold runF at h
    by_cases hl : l.length = ps.length
    · rw [r.len, hl]
    · rw [if_neg hl] at h; exact h.elim
  · obtain ⟨L, io, S, l, sr, r, h⟩ := h
    unfold runF at h
    by_cases hl : l.length = ps.length
    · rw [if_pos hl] at h
      refine ⟨L, io, H, L, io, startE N.length l, S, fr_start sr r, ?_⟩
      show outR K _ L io H _ L io H (fb (startE N.length l) S)
      cases hf : fb (startE N.length l) S with
      | nx e S' =>
        rw [hf] at h
        intro g H' L' io' sw fr
        obtain ⟨s1, s2, s3⟩ := leave fr.st fr.en fr.sub0
        exact h .non H' io' s1 s2 .non
      | rt d S' =>
        rw [hf] at h
        intro v H' L' io' sr' s r'
        obtain ⟨s1, s2, s3⟩ := leave sr' s sr.sub
        exact h v H' io' s1 s2 (r'.less s3)
      | ex c fs e S' =>
        rw [hf] at h
        intro x g H' L' io' sw fr rx
        obtain ⟨s1, s2, s3⟩ := leave fr.st fr.en fr.sub0
        rcases rx with rx | ⟨a, vs', e1, e2, e3, e4⟩
        · exact h x H' io' s1 s2 (.inl rx)
        exact h x H' io' s1 s2 (.inr ⟨a, vs', e1, fun z => e2 (s3 a z), e3, e4.mono fun v d r => r.less s3⟩)
      | _ => rw [hf] at h; exact h.elim
    · rw [if_neg hl] at h; exact h.elim
end
end DL
namespace DL
open PySem L2
mutual
def litB (K : PySem.W.Frag) : Dv → Value → Bool
  | .non, .none => true
  | .bl b, .bool c => b == c
  | .int i, .int j _ => decide (i = j)
  | .str x, .str y _ => decide (x = y)
  | .tup l, .ref a => (match K.lookup a with
    | some ⟨.type c, none, .seq its _, _⟩ => decide (c = "tuple") && (decide (its.size ≤ sizeLine) && litsB K l its.toList)
    | _ => false)
  | .rol l, .ref a => (match K.lookup a with
    | some ⟨.type c, none, .seq its _, _⟩ => decide (c = "list") && (decide (its.size ≤ sizeLine) && litsB K l its.toList)
    | _ => false)
  | _, _ => false
def litsB (K : PySem.W.Frag) : List Dv → List Value → Bool
  | [], [] => true
  | d :: l, u :: us => litB K d u && litsB K l us
  | _, _ => false
end
/-- a def of the module as a value -/
theorem qe_glo {X : Cx} {W : WX} {pos : Pos} {x : Str} (hm : X.mg x = some (.ref (He.ga X.kw x))) (hg : Gl X x := by rfl) (hd : (x == ("__debug__" : Str)) = false := by decide) : QE X W (.Name x pos) (eC (.glo x)) := qe_glob (v := .ref (He.ga X.kw x)) hm rfl (fun _ _ _ => .glo x) hg hd
inductive Ft where
  | glo (x : Str) | free (x : Str) | con (x : Str) (d : Dv) | any (p : PySem.W.Frag → Bool)
def Ft.ok (K : PySem.W.Frag) : Ft → Bool
  | .glo x => (He.Fa.glo x).ok K
  | .free x => (He.Fa.free x).ok K
  | .con x d => (match PySem.W.nsIn K mainGlobals x with
    | some (some u) => litB K d u
    | _ => false)
  | .any p => p K
def obsM (fa : List Ft) (fn : List He.DefD) (K : PySem.W.Frag) : He.AlD := ((fa.all fun f => f.ok K) && fn.all fun d => d.ok K, fn.map fun d => He.fnW K d.at_)
def SaysM (fa : List Ft) (fn : List He.DefD) (K : PySem.W.Frag) : Prop := obsM fa fn K = He.valD fn
section
variable {fa : List Ft} {fn : List He.DefD} {K : PySem.W.Frag}
theorem SaysM.fact (c : SaysM fa fn K) (i : Nat) {f : Ft} (h : fa[i]? = some f := by rfl) : f.ok K = true := by
  have c1 := (He.ba (show ((fa.all fun f => f.ok K) && fn.all fun d => d.ok K) = true from congrArg (fun z : He.AlD => z.1) c)).1
  exact List.all_eq_true.mp c1 f (List.mem_of_getElem? h)
theorem SaysM.def_ (c : SaysM fa fn K) (i : Nat) {d : He.DefD} (h : fn[i]? = some d := by rfl) : ∃ fd, FunD K d.name d.qual d.params d.body d.scope (d.dvs K) (d.kws K) (He.fAd K d.at_) fd := by
  have c2 := (He.ba (show ((fa.all fun f => f.ok K) && fn.all fun d => d.ok K) = true from congrArg (fun z : He.AlD => z.1) c)).2
  have e : fn.map (fun d => He.fnW K d.at_) = fn.map He.DefD.val := congrArg (fun z : He.AlD => z.2) c
  have e2 : (fn.map fun d => He.fnW K d.at_)[i]? = (fn.map He.DefD.val)[i]? := by rw [e]
  rw [List.getElem?_map, List.getElem?_map, h] at e2
  exact He.DefD.funD (Option.some.inj e2) (List.all_eq_true.mp c2 d (List.mem_of_getElem? h))
end
/-- a def of the module, from its body's walk -/
theorem fd_mk {P : Program} {K : Kw} {mg : Str → Option Value} {base : Heap} {x : Str} {st : Stmt} {N ps : List Str} {k np n : Nat} {fb : DS} (F : ∃ fd, FunD K x x (defArgs st) (defBody st) (defScope st) [] [] (He.ga K x) fd) (hm : mg x = some (.ref (He.ga K x)))
    (Sc : FnScope N ps (defScope st))
    (hbi : ∀ (kV doc pm : Value) (an : Option Addr) (cdv ct : Value) (us : List Value), us.length = ps.length → bindArgs (PySem.W.fnOf x x (defArgs st) (defBody st) (defScope st) .none kV doc pm an cdv ct) ⟨us, []⟩ = pure (ps.zip us))
    (hnp : ps.length = np) (hn : N.length = n) (hb : BodyG P K.w K mg base N x (defScope st) (He.ga K x) (k + 1) (defBody st) fb) : FD P K.w K mg base (k + 2) x (runF np n fb) := by
  subst hnp hn
  obtain ⟨fd, F⟩ := F
  exact ⟨_, fd, ps, fn_mk F Sc hb, hm, rfl, F.kp, F.bindsN hbi⟩
/-- .. of which nothing is asked -/
theorem fd_no {P : Program} {K : Kw} {mg : Str → Option Value} {base : Heap} {x : Str} {st : Stmt} {ps : List Str} {k : Nat} (F : ∃ fd, FunD K x x (defArgs st) (defBody st) (defScope st) [] [] (He.ga K x) fd) (hm : mg x = some (.ref (He.ga K x)))
    (hbi : ∀ (kV doc pm : Value) (an : Option Addr) (cdv ct : Value) (us : List Value), us.length = ps.length → bindArgs (PySem.W.fnOf x x (defArgs st) (defBody st) (defScope st) .none kV doc pm an cdv ct) ⟨us, []⟩ = pure (ps.zip us)) : FD P K.w K mg base k x gNo := by
  obtain ⟨fd, F⟩ := F
  exact ⟨_, fd, ps, FnG.never spD_no, hm, rfl, F.kp, F.bindsN hbi⟩
/-- sys.modules stands in the heap -/
def SysB (h : Heap) : Prop := ∃ mm, h.Ns sysModules mm
section
variable {P : Program} {w : World} {K : Kw} {mg mb : Str → Option Value} {k : Nat} {fa a : Addr} {fd : FuncData} {x : Str} {sp : Sp} {s1 : Shared} {vs : List Value} {ns : List Int}
/-- over an abstract heap that knows the script at most -/
theorem law_over (KX : K.K.In s1.heap) (G : s1.heap.Ns mainGlobals mg) (B : s1.heap.Ns builtinsNs mb) (hB : ∀ y : Str, y ≠ "__name__" → mb y = bootBuiltins y) (nl : s1.heap.NoLimit) (ng : s1.gens = #[]) (hs : SysB s1.heap)
    (oa : s1.heap.get? a = some { cls := .type "list", data := .seq vs.toArray }) (hr : RoomG k callerA)
    (F : ∀ base : Heap, K.K.In base → base.Ns mainGlobals mg → SysB base → FnG P K.w K mg base k fa fd [x] sp) (bd : ∀ (s : Shared) (u : Value), BindsTo s fd ⟨[u], []⟩ [(x, u)])
    (H : Hp) (hO : Only H) (hok : HOk P K.w H s1.heap) (hA : ∀ b, H b ≠ none → b = a) (hK : H a ≠ none → K.K.lookup a = none)
    (q : sp [.ref a] H (fun v _ => v = .bl true) fun _ _ _ => False) :
    codeAny (model P K.w) callerA (.call (.ref fa) ⟨[.ref a], []⟩) (fun r s' => r = .ok (.ret (.bool true)) ∧ OldK s1.heap s'.heap ∧ s'.os = s1.os ∧ PyProof.Rows.AllBare s'.gens) s1 := by
  have free : ∀ {b : Addr} {o : Obj}, s1.heap.get? b = some o → (∀ its n, o.data ≠ .seq its n) → H b = none := by
    intro b o e hn
    by_cases hb : H b = none
    · exact hb
    · cases hA b hb
      rw [oa] at e
      cases e
      exact absurd rfl (hn _ _)
  have nsB : ∀ {b : Addr} {m : Str → Option Value}, s1.heap.Ns b m → (hidT s1.heap H).Ns b m := by
    rintro b m ⟨o, es, ep, e, d, r⟩
    exact ⟨o, es, ep, hidT_get e (free e fun its n z => by rw [d] at z; cases z), d, r⟩
  have KB : K.K.In (hidT s1.heap H) := by
    intro b o e
    refine hidT_get (KX b o e) ?_
    by_cases hb : H b = none
    · exact hb
    · cases hA b hb
      rw [hK hb] at e
      cases e
  obtain ⟨mc, l1, l2⟩ := nl
  have e0 : Env0 P K.w K mg (hidT s1.heap H) callerA [] s1 H :=
    { frames := rfl, mod := ⟨KB, nsB G, ⟨mb, nsB B, hB⟩, mc, nsB l1, l2⟩, bs := fun b o z => of_hidT z, bsz := Nat.le_of_eq (hidT_size _ _), funs := trivial, frf := fun b z => (nomatch (show b ∈ ([] : List Addr) from z)), hok := hok, bare := .of_eq ng }
  refine codeAny_mono ((F _ KB (nsB G) (let ⟨mm, z⟩ := hs; ⟨mm, nsB z⟩)).run _ [] s1 H _ [.ref a] [.ref a] _ _ hr e0 (bd s1 (.ref a)) (.cons rfl .nil) q) ?_
  intro r s' z
  match r, z with
  | .error e, ⟨_, _, _, _, _, _, _, _, _, _, _, _, z⟩ => exact z.elim
  | .ok .next, z => exact z.elim
  | .ok .brk, z => exact z.elim
  | .ok .cont, z => exact z.elim
  | .ok (.ret u), ⟨v, H', os, bare, un, hok', r', z⟩ =>
    cases (show v = .bl true from z)
    cases (show u = Value.bool true from r')
    refine ⟨rfl, OldK.of_keep fun b o e => ?_, os, bare⟩
    rcases hO b with hb | ⟨ob, xs, hb⟩
    · exact un.keep b o e hb (fun z => nomatch (show b ∈ ([] : List Addr) from z)) (fun z => nomatch z)
    · have e1 := (hok b _ hb).1
      have e2 := (hok' b _ (un.frzs b ob _ hb)).1
      rw [e] at e1
      rw [e2, ← e1]
theorem law_g (KX : K.K.In s1.heap) (G : s1.heap.Ns mainGlobals mg) (B : s1.heap.Ns builtinsNs mb) (hB : ∀ y : Str, y ≠ "__name__" → mb y = bootBuiltins y) (nl : s1.heap.NoLimit) (ng : s1.gens = #[]) (hs : SysB s1.heap)
    (oa : s1.heap.get? a = some { cls := .type "list", data := .seq vs.toArray }) (hi : PyProof.Rows.IntsAre vs ns) (hl : ns.length ≤ sizeLine) (hr : RoomG k callerA)
    (F : ∀ base : Heap, K.K.In base → base.Ns mainGlobals mg → SysB base → FnG P K.w K mg base k fa fd [x] sp) (bd : ∀ (s : Shared) (u : Value), BindsTo s fd ⟨[u], []⟩ [(x, u)])
    (q : ∀ H : Hp, SqL K H a (ns.map V.int) → sp [.ref a] H (fun v _ => v = .bl true) fun _ _ _ => False) :
    codeAny (model P K.w) callerA (.call (.ref fa) ⟨[.ref a], []⟩) (fun r s' => r = .ok (.ret (.bool true)) ∧ OldK s1.heap s'.heap ∧ s'.os = s1.os ∧ PyProof.Rows.AllBare s'.gens) s1 := by
  have rv := vals_ints hi
  have hv := hi.length
  by_cases hk : ∃ o, K.K.lookup a = some o
  · obtain ⟨o, hk⟩ := hk
    have e := KX a o hk
    rw [oa] at e
    cases e
    refine law_over KX G B hB nl ng hs oa hr F bd (fun _ => none) (fun _ => .inl rfl) (fun _ _ z => nomatch z) (fun _ z => (z rfl).elim) (fun z => (z rfl).elim) (q _ (.inr ⟨_, vs.toArray, _, hk, rfl, rfl, rfl, ?_, by simpa using rv⟩))
    rw [List.size_toArray, hv]
    exact hl
  · have hk' : K.K.lookup a = none := by
      cases z : K.K.lookup a with
      | none => rfl
      | some o => exact absurd ⟨o, z⟩ hk
    let u : HO := .frz { cls := .type "list", data := .seq vs.toArray } (.lst (ns.map V.int))
    have at_ : ∀ b v, upd (fun _ => none) a u b = some v → b = a ∧ v = u := by
      intro b v z
      by_cases hb : b = a
      · subst hb
        rw [upd_same] at z
        cases z
        exact ⟨rfl, rfl⟩
      · rw [upd_ne hb] at z
        cases z
    refine law_over KX G B hB nl ng hs oa hr F bd (upd (fun _ => none) a u) (fun b => ?_) (fun b v z => ?_) (fun b z => ?_) (fun _ => hk') (q _ (.inl (.inr ⟨_, upd_same⟩)))
    · by_cases hb : b = a
      · exact .inr ⟨_, _, by rw [hb]; exact upd_same⟩
      · exact .inl (upd_ne hb)
    · obtain ⟨rfl, rfl⟩ := at_ b v z
      exact ⟨oa, by rw [List.length_map]; exact hl, vs, _, rv, oa⟩
    · cases h : upd (fun _ => none) a u b with
      | none => exact absurd h z
      | some v => exact (at_ b v h).1
end
/-- the goal that the head leaves -/
theorem walk_g {l : PySem.W.OpenLaw} {n k : Nat} {q : Program} {loose : List Str} {XP : (Str → Option Value) → Heap → Prop} {YP : World → Heap → Prop} {d : DefRec} {x : Str} (hn : l.most = some n) (hz : n ≤ sizeLine) (hd : d.params.defaults = []) (him : PyProof.Rows.importsNone q = true) (hr : RoomG k callerA)
    (F : ∀ (w : World) (mg : Str → Option Value) (fa : Addr) (h : Heap), YP w h → h.Ns mainGlobals mg → mg d.name = some (.ref fa) → ∃ (K : PySem.W.Frag) (fd : FuncData) (sp : Sp), K.In h ∧ (∀ (s : Shared) (u : Value), BindsTo s fd ⟨[u], []⟩ [(x, u)]) ∧
      (∀ (H : Hp) (a : Addr) (ns : List Int), ns.length ≤ n → SqL K H a (ns.map V.int) → sp [.ref a] H (fun v _ => v = .bl true) fun _ _ _ => False) ∧ ∀ base : Heap, K.In base → base.Ns mainGlobals mg → SysB base → FnG l.prog w ⟨K, w⟩ mg base k fa fd [x] sp) :
    PySem.W.WalkO q loose XP YP l.row.toRowW d [] (fun f vs => PySem.call f vs) := by
  refine Att.attach_call hn hd fun w s0 s1 mg mb fa o pm cd doc a vs ns G Y ho hd' hcd hm oa hi hl ng => ?_
  obtain ⟨K, fd, sp, KX, bd, q, hF⟩ := F w mg fa _ Y G.T.g hm
  exact law_g (K := ⟨K, w⟩) KX G.T.g G.T.b G.T.builtins G.T.nolimit ng (let ⟨mm, z, _⟩ := (G.T.seer him).mods; ⟨mm, z⟩) oa hi (Nat.le_trans hl hz) hr hF bd fun H hS => q H a ns hl hS
/-- the law's end -/
theorem law_end {K : Kw} {g : DF} (h : ∀ ns : List Int, ns.length ≤ 63 → ∃ S, g [] [.rol (ns.map .int)] = .ok (.bl true) S) (H : Hp) (a : Addr) (ns : List Int) (hl : ns.length ≤ 63) (hS : SqL K H a (ns.map V.int)) : spD K g [.ref a] H (fun v _ => v = .bl true) fun _ _ _ => False := by
  obtain ⟨S, e⟩ := h ns hl
  have hv : ∀ ns : List Int, VRs K (fun _ => False) [] H (ns.map V.int) (ns.map Dv.int) := fun ns => by
    induction ns with
    | nil => exact .nil
    | cons n r ih => exact .cons (.int n) ih
  refine ⟨fun _ => False, [], [], [.rol (ns.map .int)], ⟨rfl, .nil, fun _ h => (nomatch h), fun _ h => h.elim, fun k a o h => by simp at h⟩, .cons ?_ .nil, ?_⟩
  · rcases hS with hS | hS
    · exact .rol (fun z => z) hS (hv ns)
    · exact .rolK (fun H' => .inr hS) (hv ns)
  · rw [e]
    intro v H' io' _ _ r
    cases r
    rfl
end DL
namespace DL
open PySem L2
theorem call_isiA {X : Cx} : CallR X (.builtin "isinstance") (rIsiA X.kw) := CallR.or call_isi (CallR.or call_isiT call_isiK)
section
variable {X : Cx} {W : WX} {elt tg iter : Expr} {ifs : List Expr} {scope : Scope} {own : List (Str × Nat)} {pos spos py : Pos} {fi : DL} {gd : DG} {tt : DT} {te : DE} {y : Str}
/-- -e -/
def negD : Dv → Sto → Res Dv
  | .int i, S => .ok (.int (-i)) S
  | _, _ => .no
def eNeg (f : DE) : DE := fun e S => bnd (f e S) negD
theorem qe_neg {a : Expr} {f : DE} (h : QE X W a f) : QE X W (.UnaryOp .USub a pos) (eNeg f) := pe_imp (pe_un un_neg h) fun g H Q q => by
  refine Rdg.bind (R := VR X.kw) (k := fun _ => negD) q fun L0 io0 H0 L io H1 e S d v fr rv q => ?_
  cases rv with
  | int i => exact ⟨i, rfl, q.ok1 fr.st (.int _)⟩
  | _ => exact q.elim
end
end DL
namespace DL
open PySem L2
def keyD : Dv → Option Key
  | .int i => some (.inl i)
  | .str x => some (.inr x)
  | _ => none
def dV : Key → Dv
  | .inl i => .int i
  | .inr x => .str x
section
variable {K : Kw} {L L' : Addr → Prop} {io io' : List Addr} {H H' : Hp} {S : Sto}
theorem VR.key (k : Key) : VR K L io H (kV k) (dV k) := by
  cases k with
  | inl i => exact .int i
  | inr x => exact .str x
def valD (l : List (Key × Dv)) (k : Key) : Option Dv := (l.find? fun kv => decide (kv.1 = k)).map (·.2)
def putD (l : List (Key × Dv)) (k : Key) (d : Dv) : List (Key × Dv) := if (l.any fun kv => decide (kv.1 = k)) = true then l.map (fun kv => if kv.1 = k then (kv.1, d) else kv) else l ++ [(k, d)]
def dropD (l : List (Key × Dv)) (k : Key) : List (Key × Dv) := l.filter fun kv => decide (kv.1 ≠ k)
def mergeD (l more : List (Key × Dv)) : List (Key × Dv) := more.foldl (fun acc kv => putD acc kv.1 kv.2) l
theorem VRp.pair : ∀ {kvs : List (Key × V)} {l : List (Key × Dv)}, VRp K L io H kvs l → PairR (VR K L io H) kvs l
  | _, _, .nil => .nil
  | _, _, .cons h t => .cons ⟨rfl, h⟩ (VRp.pair t)
theorem PairR.vrp : ∀ {kvs : List (Key × V)} {l : List (Key × Dv)}, PairR (VR K L io H) kvs l → VRp K L io H kvs l
  | _, _, .nil => .nil
  | (k, v) :: _, (k', d) :: _, .cons ⟨h1, h2⟩ t => by
    cases (show k = k' from h1)
    exact .cons h2 (PairR.vrp t)
theorem PairR.val {R : V → Dv → Prop} : ∀ {kvs : List (Key × V)} {l : List (Key × Dv)} (k : Key), PairR R kvs l → (∀ d, valD l k = some d → ∃ v, valV kvs k = some v ∧ R v d) ∧ (valD l k = none → valV kvs k = none)
  | [], _, k, .nil => ⟨fun d h => (by simp [valD] at h), fun _ => rfl⟩
  | (k1, v) :: kvs, (k2, d) :: l, k, .cons ⟨h1, h2⟩ t => by
    cases (show k1 = k2 from h1)
    have ih := PairR.val k t
    unfold valD valV at ih ⊢
    by_cases e : k1 = k
    · subst e
      refine ⟨fun d' h => ?_, fun h => ?_⟩
      · simp at h; subst h; exact ⟨v, by simp, h2⟩
      · simp at h
    · rw [List.find?_cons, List.find?_cons]
      simp only [e, decide_false]
      exact ih
theorem PairR.any {R : V → Dv → Prop} (k : Key) : ∀ {kvs : List (Key × V)} {l : List (Key × Dv)}, PairR R kvs l → (kvs.any fun kv => decide (kv.1 = k)) = l.any fun kv => decide (kv.1 = k)
  | _, _, .nil => rfl
  | (k1, v) :: kvs, (k2, d) :: l, .cons ⟨h1, h2⟩ t => by
    cases (show k1 = k2 from h1)
    rw [List.any_cons, List.any_cons, PairR.any k t]
theorem PairR.app {R : V → Dv → Prop} : ∀ {kvs kvs' : List (Key × V)} {l l' : List (Key × Dv)}, PairR R kvs l → PairR R kvs' l' → PairR R (kvs ++ kvs') (l ++ l')
  | _, _, _, _, .nil, h => h
  | _, _, _, _, .cons h t, h2 => .cons h (PairR.app t h2)
theorem PairR.mapP {R : V → Dv → Prop} {k : Key} {v : V} {d : Dv} (h : R v d) : ∀ {kvs : List (Key × V)} {l : List (Key × Dv)}, PairR R kvs l → PairR R (kvs.map fun kv => if kv.1 = k then (kv.1, v) else kv) (l.map fun kv => if kv.1 = k then (kv.1, d) else kv)
  | _, _, .nil => .nil
  | (k1, v1) :: kvs, (k2, d1) :: l, .cons ⟨h1, h2⟩ t => by
    cases (show k1 = k2 from h1)
    rw [List.map_cons, List.map_cons]
    refine .cons ?_ (PairR.mapP h t)
    by_cases e : k1 = k
    · rw [if_pos e, if_pos e]; exact ⟨rfl, h⟩
    · rw [if_neg e, if_neg e]; exact ⟨rfl, h2⟩
theorem PairR.put {R : V → Dv → Prop} {k : Key} {v : V} {d : Dv} {kvs : List (Key × V)} {l : List (Key × Dv)} (r : PairR R kvs l) (h : R v d) : PairR R (putK kvs k v) (putD l k d) := by
  unfold putK putD
  rw [r.any k]
  split
  · exact r.mapP h
  · exact r.app (.cons ⟨rfl, h⟩ .nil)
theorem PairR.drop {R : V → Dv → Prop} (k : Key) : ∀ {kvs : List (Key × V)} {l : List (Key × Dv)}, PairR R kvs l → PairR R (dropK kvs k) (dropD l k)
  | _, _, .nil => .nil
  | (k1, v1) :: kvs, (k2, d1) :: l, .cons ⟨h1, h2⟩ t => by
    cases (show k1 = k2 from h1)
    have ih := PairR.drop k t
    unfold dropK dropD at ih ⊢
    rw [List.filter_cons, List.filter_cons]
    by_cases e : k1 = k
    · simp only [e, ne_eq, not_true, decide_false, Bool.false_eq_true, if_false]; exact ih
    · simp only [ne_eq, e, not_false_iff, decide_true, if_true]; exact .cons ⟨rfl, h2⟩ ih
end
def NewD (K : Kw) (H : Hp) (L' : Addr → Prop) (io' : List Addr) (H' : Hp) (v : V) (l : List (Key × Dv)) : Prop := ∃ p kvs, v = .ref p ∧ H p = none ∧ L' p ∧ p ∉ io' ∧ H' p = some (.dK kvs) ∧ PairR (VR K L' io' H') kvs l
abbrev DD := Env → Sto → Res (List (Key × Dv))
def FinD (K : Kw) (W : WX) (g : St) (L : Addr → Prop) (io : List Addr) (H : Hp) (Q : V → Hp → Prop) : Res (List (Key × Dv)) → Prop
  | .ok d S' => ∀ (v : V) (H' : Hp) (L' : Addr → Prop) (io' : List Addr), Stp L io H L' io' H' → SR K L' io' H' S' → NewD K H L' io' H' v d → Q v H'
  | .ex c fs S' => ∀ (x : Option Addr) (H' : Hp) (L' : Addr → Prop) (io' : List Addr), Stp L io H L' io' H' → SR K L' io' H' S' → ExR K L' io' H' x fs → W (.ref (He.ga K c)) x g H'
  | .no => False
def rdD (K : Kw) (W : WX) (f : DD) : TE := fun g H Q => ∃ (L0 : Addr → Prop) (io0 : List Addr) (H0 : Hp) (L : Addr → Prop) (io : List Addr) (e : Env) (S : Sto), FR K L0 io0 H0 L io H g e S ∧ FinD K W g L io H Q (f e S)
abbrev QD (X : Cx) (W : WX) (e : Expr) (f : DD) : Prop := PE X e (rdD X.kw W f)
def eFrzD (f : DD) : DE := fun e S => bnd (f e S) fun l S' => .ok (.dic l) S'
/-- {} -/
def dNil : DD := fun _ S => .ok [] S
/-- {k: v, ..} -/
abbrev DP := Env → Sto → Res (List (Dv × Dv))
def pNil : DP := fun _ S => .ok [] S
def pCons (fk fv : DE) (fp : DP) : DP := fun e S => bnd (fk e S) fun k S1 => bnd (fv e S1) fun v S2 => bnd (fp e S2) fun l S3 => .ok ((k, v) :: l) S3
section
variable {X : Cx} {W : WX} {pos : Pos} {k v o i : Expr} {ks : List (Option Expr)} {vs : List Expr} {fk fv f f2 : DE} {fp : DP}
def keysD : List (Dv × Dv) → Option (List (Key × Dv))
  | [] => some []
  | (k, v) :: r => (keyD k).bind fun k' => (keysD r).map fun l => (k', v) :: l
def kDisp (l : List (Dv × Dv)) (S : Sto) : Res (List (Key × Dv)) := match keysD l with
  | some m => if m.length ≤ 15 then .ok (mergeD [] m) S else .no
  | none => .no
def dDisp (fp : DP) : DD := fun e S => bnd (fp e S) kDisp
theorem FinD.later {K : Kw} {g : St} {L L1 : Addr → Prop} {io io1 : List Addr} {H H1 : Hp} {S1 : Sto} {Q : V → Hp → Prop} {r : Res (List (Key × Dv))} (h : FinD K W g L io H Q r) (s : Stp L io H L1 io1 H1) (sub : ∀ x ∈ io, L x) (sr1 : SR K L1 io1 H1 S1) : FinD K W g L1 io1 H1 Q r := by
  cases r with
  | ok l S2 =>
    intro v H' L' io' s2 sr2 ⟨p, xs, e1, e2, e3⟩
    refine h v H' L' io' (s.trans s2 sub) sr2 ⟨p, xs, e1, ?_, e3⟩
    rcases s.back e2 with z | z
    · exact absurd e2 (sr1.dom p (s.up p (sub p z)))
    · exact z
  | ex c fs S2 => exact fun v H' L' io' s2 sr r2 => h v H' L' io' (s.trans s2 sub) sr r2
  | no => exact h
/-- d[k], of a frozen dict or a handle's -/
def asD (S : Sto) : Dv → Option (List (Key × Dv))
  | .dic l => some l
  | .hdl k => match S[k]? with
    | some (.dct l) => some l
    | _ => none
  | _ => none
end
def kStrM (h : Sto → Str → List Dv → Option (Dv × Sto)) (fa : DA) (e : Env) (d : Dv) (S : Sto) : Res Dv := match d with
  | .str z => bnd (fa e S) fun as S2 => ofO (h S2 z as)
  | _ => .no
def eStrM (h : Sto → Str → List Dv → Option (Dv × Sto)) (f : DE) (fa : DA) : DE := fun e S => bnd (f e S) (kStrM h fa e)
def insD (l as : List Dv) : Option (List Dv × Dv) := match as with
  | [.int i, d] => if l.length < sizeLine ∧ 0 ≤ i ∧ i < 2 ^ 63 then some (l.take i.toNat ++ [d] ++ l.drop i.toNat, .non) else none
  | _ => none
theorem owns_ins {K : Kw} : OwnS K (fun x vs H Q => ∃ (l : Addr) (xs : List V) (i : Int) (y : V), x = .ref l ∧ vs = [.int i, y] ∧ H l = some (.lst xs) ∧ xs.length < sizeLine ∧ 0 ≤ i ∧ i < 2 ^ 63 ∧
    Q .non (upd H l (.lst (xs.take i.toNat ++ [y] ++ xs.drop i.toNat)))) insD := by
  intro L io H S p xs l vs as l' d Q sr hp lp rx ra hh q
  cases ra with
  | nil => cases hh
  | cons r t =>
    cases t with
    | nil => simp [insD] at hh
    | cons r2 t2 =>
      cases t2 with
      | cons => simp [insD] at hh
      | nil =>
        cases r with
        | int i =>
          simp only [insD] at hh
          split at hh
          · rename_i hl
            cases hh
            exact ⟨p, xs, i, _, rfl, rfl, hp, by rw [rx.len]; exact hl.1, hl.2.1, hl.2.2, q _ _ (((rx.take _).app (.cons r2 .nil)).app (rx.drop _)) .non⟩
          · cases hh
        | _ => cases hh
/-- len(found), found the slot's own -/
def eLenO (i : Nat) : DE := fun e S => match e[i]? with
  | some (.own (.lst l)) => .ok (.int l.length) S
  | _ => .no
/-- what is a slot's own becomes a handle's -/
def sHdl (i : Nat) : DS := fun e S => match e[i]? with
  | some (.own o) => .nx (e.set i (.va (.hdl S.length))) (S ++ [o])
  | _ => .no
end DL
namespace DL
open PySem L2
def insOf (S : Sto) : Dv → Option (Str × List (Str × Dv))
  | .obj c fs => some (c, fs)
  | .hdl k => match S[k]? with
    | some (.ins c fs) => some (c, fs)
    | _ => none
  | _ => none
section
variable {K : Kw} {L L' : Addr → Prop} {io io' : List Addr} {H H' : Hp} {S : Sto}
theorem insOf_ok {v : V} {d : Dv} {c : Str} {fs : List (Str × Dv)} (s : SR K L io H S) (r : VR K L io H v d) (h : insOf S d = some (c, fs)) : ∃ a dx vs, v = .ref a ∧ H a = some (.ins (He.ga K c) dx vs) ∧ PairR (VR K L io H) vs fs := by
  cases r with
  | obj nl e t => cases h; exact ⟨_, _, _, rfl, e, of_vrf t⟩
  | hdl hk =>
    rename_i a k
    cases q : S[k]? with
    | none => simp [insOf, q] at h
    | some o =>
      cases o with
      | ins c' l' =>
        simp [insOf, q] at h
        obtain ⟨rfl, rfl⟩ := h
        obtain ⟨dx, vs, e, t⟩ := s.obj k a _ hk q
        exact ⟨a, dx, vs, rfl, e, t⟩
      | _ => simp [insOf, q] at h
  | _ => cases h
theorem PairR.look {R : V → Dv → Prop} (f : Str) : ∀ {vs : List (Str × V)} {fs : List (Str × Dv)}, PairR R vs fs → (∀ d, fs.lookup f = some d → ∃ v, vs.lookup f = some v ∧ R v d) ∧ (fs.lookup f = none → vs.lookup f = none)
  | [], _, .nil => ⟨fun d h => (by simp at h), fun _ => rfl⟩
  | (k1, v) :: vs, (k2, d) :: fs, .cons ⟨h1, h2⟩ t => by
    cases (show k1 = k2 from h1)
    have ih := PairR.look f t
    rw [List.lookup_cons, List.lookup_cons]
    cases e : f == k1 with
    | true => exact ⟨fun d' h => (by cases h; exact ⟨v, rfl, h2⟩), fun h => (by cases h)⟩
    | false => exact ih
def putFD (f : Str) (d : Dv) : List (Str × Dv) → List (Str × Dv)
  | [] => [(f, d)]
  | (g, x) :: r => if g = f then (g, d) :: r else (g, x) :: putFD f d r
theorem PairR.putF {R : V → Dv → Prop} {f : Str} {v : V} {d : Dv} (h : R v d) : ∀ {vs : List (Str × V)} {fs : List (Str × Dv)}, PairR R vs fs → PairR R (L2.putF f v vs) (putFD f d fs)
  | [], _, .nil => .cons ⟨rfl, h⟩ .nil
  | (k1, w) :: vs, (k2, x) :: fs, .cons ⟨h1, h2⟩ t => by
    cases (show k1 = k2 from h1)
    unfold L2.putF putFD
    by_cases e : k1 = f
    · rw [if_pos e, if_pos e]; exact .cons ⟨rfl, h⟩ t
    · rw [if_neg e, if_neg e]; exact .cons ⟨rfl, h2⟩ (PairR.putF h t)
theorem PairR.size {R : V → Dv → Prop} : ∀ {vs : List (Str × V)} {fs : List (Str × Dv)}, PairR R vs fs → vs.length = fs.length
  | [], _, .nil => rfl
  | _ :: vs, _ :: fs, .cons _ t => by rw [List.length_cons, List.length_cons, PairR.size t]
end
/-- o.f -/
def kFld (c f : Str) (d : Dv) (S : Sto) : Res Dv := match insOf S d with
  | some (c', fs) => if c' = c then (match fs.lookup f with
    | some x => .ok x S
    | none => .no) else .no
  | none => .no
def eFld (c f : Str) (fo : DE) : DE := fun e S => bnd (fo e S) (kFld c f)
/-- what the text says of a field of a class -/
structure Fl (K : Kw) (c f : Str) : Prop where
  kc : Cls K (He.ga K c)
  kn : NoAttr K (He.ga K c) f
section
variable {X : Cx} {W : WX} {pos pos' : Pos} {o a : Expr} {f c : Str} {fo fv : DE}
theorem qe_fld (hf : Fl X.kw c f) (h : QE X W o fo) (hb : attributeBase o f X.env (eval o X.env) = eval o X.env := by rfl) : QE X W (.Attribute o f pos) (eFld c f fo) := pe_imp (pe_fld h hb) fun g H Q q => by
  refine Rdg.bind (R := VR X.kw) (k := fun _ => kFld c f) q fun L0 io0 H0 L io H1 e S d v fr rv q1 => ?_
  replace q := q1
  unfold kFld at q
  cases h1 : insOf S d with
  | none => rw [h1] at q; exact q.elim
  | some z =>
    obtain ⟨c', fs⟩ := z
    rw [h1] at q
    simp only at q
    split at q
    · rename_i hc
      subst hc
      obtain ⟨p, dx, vs, rfl, e1, e2⟩ := insOf_ok fr.st rv h1
      cases h2 : fs.lookup f with
      | none => rw [h2] at q; exact q.elim
      | some x =>
        rw [h2] at q
        obtain ⟨v, e3, e4⟩ := (e2.look f).1 x h2
        exact ⟨p, _, dx, vs, v, rfl, e1, hf.kc, hf.kn, e3, q.ok1 fr.st e4⟩
    · exact q.elim
/-- o.f = v, o a handle -/
def setF (c f : Str) (S : Sto) (o v : Dv) : Option Sto := match o with
  | .hdl k => match S[k]? with
    | some (.ins c' fs) => if c' = c ∧ fs.length < 1000 then some (S.set k (.ins c' (putFD f v fs))) else none
    | _ => none
  | _ => none
def sFldH (c f : Str) (fo fv : DE) : DS := sBind fv fun e v S => sBind fo (fun e o S2 => match setF c f S2 o v with
  | some S3 => .nx e S3
  | none => .no) e S
theorem qs_fld (hf : Fl X.kw c f) (ho : QE X W o fo) (hv : QE X W a fv) (hs : swapsWith a (some (.Attribute o f pos')) pos.line X.env = pure false := by rfl) : QS X W (.Assign [.Attribute o f pos'] a pos) (sFldH c f fo fv) := ps_imp (ps_fld ho hv hs) fun D g H h => by
  refine rds_bind (R := VR X.kw) (k := fun e v S => sBind fo (fun e o S2 => match setF c f S2 o v with
    | some S3 => .nx e S3
    | none => .no) e S) h fun L0 io0 H0 L io H1 e S dv v fr rv q => ?_
  refine outR.bind (R := VR X.kw) (k := fun e o S2 => match setF c f S2 o dv with
    | some S3 => .nx e S3
    | none => .no) fr q fun M2 io2 H2 S2 d y s2 fr2 ro q1 => ?_
  replace q := q1
  cases d with
  | hdl k =>
    simp only [setF] at q
    cases h1 : S2[k]? with
    | none => rw [h1] at q; exact q.elim
    | some ob =>
      cases ob with
      | ins c' fs =>
        rw [h1] at q
        simp only at q
        split at q
        · rename_i S3 hz
          split at hz
          · rename_i hc
            cases hz
            obtain ⟨hc, hl⟩ := hc
            subst hc
            cases ro with
            | hdl hk =>
              rename_i p
              obtain ⟨dx, vs, e1, e2⟩ := fr2.st.obj k p _ hk h1
              have lp : M2 p := fr2.st.sub p (List.mem_of_getElem? hk)
              refine ⟨p, _, dx, vs, rfl, e1, hf.kc, hf.kn, by rw [e2.size]; exact hl, ?_⟩
              have st : Stp M2 io2 H2 M2 io2 (upd H2 p (.ins (He.ga X.kw c') dx (putF f v vs))) := Stp.mutH (List.mem_of_getElem? hk)
              have sr := fr2.st.setH (ob := .ins c' (putFD f dv fs)) (o := .ins (He.ga X.kw c') dx (putF f v vs)) hk ⟨dx, _, upd_same, (PairR.putF (rv.step s2 fr.st.sub) e2).mono fun v d r => r.mut lp⟩
              exact q g _ M2 io2 (st.stw fr2.st.sub) (fr2.step st sr)
          · cases hz
        · exact q.elim
      | _ => rw [h1] at q; exact q.elim
  | _ => exact q.elim
end
/-- the method m of the class c answers as g, the data dl behind the arguments of the call -/
def FM (P : Program) (w : World) (K : Kw) (mg : Str → Option Value) (base : Heap) (k : Nat) (c m : Str) (dl : List Dv) (g : DF) : Prop :=
  ∃ (f : Addr) (fd : FuncData) (ps : List Str) (ds : List Value) (dvs : List V), FnG P w K mg base k f fd ps (spD K g) ∧ Cls K (He.ga K c) ∧ Meth K (He.ga K c) m f ∧ Binds K fd ps ds ∧ Vals dvs ds ∧ ∀ L io H, VRs K L io H dvs dl
def kMeth (c m : Str) (dl : List Dv) (g : DF) (fa : DA) (e : Env) (d : Dv) (S : Sto) : Res Dv := match insOf S d with
  | some (c', fs) => if c' = c ∧ (fs.lookup m).isNone = true then bnd (fa e S) fun as S2 => g S2 (d :: (as ++ dl)) else .no
  | none => .no
def eMeth (c m : Str) (dl : List Dv) (g : DF) (fo : DE) (fa : DA) : DE := fun e S => bnd (fo e S) (kMeth c m dl g fa e)
section
variable {X : Cx} {W : WX} {apos pos : Pos} {o e : Expr} {es : List Expr} {m c : Str} {fo : DE} {fa : DA} {dl : List Dv} {g : DF} {k : Nat} {pl : Sem Bool}
/-- what a method's call asks, behind the object -/
def tMG (C : Addr) (m : Str) (sp : Sp) (dvs : List V) (W : WX) (ta : TE) (t : TA) : TE := fun σ H Q => ta σ H fun x H1 => ∃ a dx fs, x = .ref a ∧ H1 a = some (.ins C dx fs) ∧ fs.lookup m = none ∧
  t σ H1 fun vs H2 => sp (x :: (vs ++ dvs)) H2 Q (fun c d H' => W c d σ H')
theorem rd_meth {dvs : List V} (hd : ∀ L io H, VRs X.kw L io H dvs dl) {st : St} {H : Hp} {Q : VK} (q : rd X.kw W (eMeth c m dl g fo fa) st H Q) : tMG (He.ga X.kw c) m (spD X.kw g) dvs W (rd X.kw W fo) (rda X.kw W fa) st H Q := by
  refine Rdg.bind (R := VR X.kw) (k := kMeth c m dl g fa) q fun L0 io0 H0 L io H1 e S d v fr rv q1 => ?_
  replace q := q1
  unfold kMeth at q
  cases h1 : insOf S d with
  | none => rw [h1] at q; exact q.elim
  | some z =>
    obtain ⟨c', fs⟩ := z
    rw [h1] at q
    simp only at q
    split at q
    · rename_i hc
      obtain ⟨hc, hl⟩ := hc
      subst hc
      obtain ⟨p, dx, vs, rfl, e1, e2⟩ := insOf_ok fr.st rv h1
      refine ⟨p, dx, vs, rfl, e1, (e2.look m).2 (Option.isNone_iff_eq_none.mp hl), ?_⟩
      refine Fin.bind (R := VRs X.kw) (k := fun as S2 => g S2 (d :: (as ++ dl))) fr q fun L2 io2 H2 S2 as ws s2 fr2 r2 q => ?_
      exact spD_fin fr2.st (.cons (rv.step s2 fr.st.sub) (r2.app (hd _ _ _))) q
    · exact q.elim
theorem qe_meth (F : FM X.prog X.w X.kw X.mg X.base k c m dl g) (hr : RoomG (k + 1) X.A) (tk : Takes X W) (ho : QE X W o fo) (ha : QA X W (e :: es) fa)
    (hst : starEach (e :: es) X.env = (false, eval e X.env) :: starEach es X.env := by rfl) (hpl : (backTo pos (starEach es X.env)).any (·.1) = false := by rfl)
    (ht : eval (.Call (.Attribute o m apos) (e :: es) [] pos) X.env = (do
      let ov ← eval o X.env
      standAt apos.atName
      let (f, first) ← holding [ov] (getMethod ov m pl)
      callWith pos f first (backTo pos (starEach (e :: es) X.env)) (backToKw pos (keywordEach [] X.env))) := by rfl) : QE X W (.Call (.Attribute o m apos) (e :: es) [] pos) (eMeth c m dl g fo fa) := by
  obtain ⟨f, fd, ps, ds, dvs, F, hc, hm, hb, hv, hd⟩ := F
  refine ⟨fun pins s st H Q I q => PySem.W.methodCall_KW (pl := pl) (thn (ho.run pins s st H _ I (rd_meth hd q)) fun u s1 z => ?_) ht⟩
  obtain ⟨x, H1, I1, rx, a, dx, fs, rfl, ea, l, z⟩ := z
  cases (show u = Value.ref a from rx)
  refine getmeth_ok I1 ea hc hm l (PySem.W.callWith_K (first := [.ref a]) (h₀ := X.base) I.ok.mod.kin hm.kp (thn (ha.run pos pins s1 st H1 _ I1 z) ?_) hst hpl)
  rintro us s2 ⟨vs, H2, I2, r, z⟩
  exact ⟨I2.kIn, run_g (us := .ref a :: us) (vs := .ref a :: vs) F hr.low hb hv tk I2 (.cons rfl r) z⟩
theorem qe_meth0 (F : FM X.prog X.w X.kw X.mg X.base k c m dl g) (hr : RoomG (k + 1) X.A) (tk : Takes X W) (ho : QE X W o fo)
    (ht : eval (.Call (.Attribute o m apos) [] [] pos) X.env = (do
      let ov ← eval o X.env
      standAt apos.atName
      let (f, first) ← holding [ov] (getMethod ov m pl)
      callWith pos f first (backTo pos (starEach [] X.env)) (backToKw pos (keywordEach [] X.env))) := by rfl) : QE X W (.Call (.Attribute o m apos) [] [] pos) (eMeth c m dl g fo aNil) := by
  obtain ⟨f, fd, ps, ds, dvs, F, hc, hm, hb, hv, hd⟩ := F
  refine ⟨fun pins s st H Q I q => PySem.W.methodCall_KW (pl := pl) (thn (ho.run pins s st H _ I (rd_meth hd q)) fun u s1 z => ?_) ht⟩
  obtain ⟨x, H1, I1, rx, a, dx, fs, rfl, ea, l, z⟩ := z
  cases (show u = Value.ref a from rx)
  have z' : spD X.kw g (.ref a :: ([] ++ dvs)) H1 Q (fun c d H' => W c d st H') := by
    obtain ⟨L0, io0, H0, L, io, e, S, fr, z⟩ := z
    exact z [] H1 L io (Stp.refl ..) fr.st .nil
  exact getmeth_ok I1 ea hc hm l (PySem.W.callWith_K0 (first := [.ref a]) I1.kIn hm.kp (run_g (us := [.ref a]) (vs := [.ref a]) F hr.low hb hv tk I1 (.cons rfl .nil) z'))
end
mutual
def noH : Dv → Bool
  | .tup l => noHs l
  | .lst l => noHs l
  | .rol l => noHs l
  | .dic l => noHp l
  | .obj _ fs => noHf fs
  | .ext _ _ _ l => noHs l
  | .hdl _ => false
  | _ => true
def noHs : List Dv → Bool
  | [] => true
  | d :: l => noH d && noHs l
def noHp : List (Key × Dv) → Bool
  | [] => true
  | (_, d) :: l => noH d && noHp l
def noHf : List (Str × Dv) → Bool
  | [] => true
  | (_, d) :: l => noH d && noHf l
end
section
variable {K : Kw} {L L' : Addr → Prop} {io io' : List Addr} {H H' : Hp}
theorem VR.noh (hl : ∀ a o, H a = some o → ¬ L a → H' a = some o ∧ ¬ L' a) : ∀ {v : V} {d : Dv}, VR K L io H v d → noH d = true → VR K L' io' H' v d := by
  intro v d h
  refine VR.rec (motive_1 := fun v d _ => noH d = true → VR K L' io' H' v d) (motive_2 := fun vs ds _ => noHs ds = true → VRs K L' io' H' vs ds) (motive_3 := fun vs ds _ => noHp ds = true → VRp K L' io' H' vs ds) (motive_4 := fun vs ds _ => noHf ds = true → VRf K L' io' H' vs ds) ?_ ?_ ?_ ?_ ?_ ?_ ?_ ?_ ?_ ?_ ?_ ?_ ?_ ?_ ?_ ?_ ?_ ?_ ?_ ?_ ?_ h
  · exact fun _ => .non
  · exact fun b _ => .bl b
  · exact fun i _ => .int i
  · exact fun x _ => .str x
  · intro a xs ds nl e _ ih n
    exact .tup (hl a _ e nl).2 (hl a _ e nl).1 (ih (by simpa [noH] using n))
  · exact fun h _ ih n => .tupK h (ih (by simpa [noH] using n))
  · intro a xs ds nl e _ ih n
    exact .lst (hl a _ e nl).2 (hl a _ e nl).1 (ih (by simpa [noH] using n))
  · intro a xs ds nl r _ ih n
    obtain ⟨o, e⟩ := rd_some r
    exact .rol (hl a o e nl).2 (rd_keep r fun o e => (hl a o e nl).1) (ih (by simpa [noH] using n))
  · exact fun h _ ih n => .rolK h (ih (by simpa [noH] using n))
  · intro a xs ds nl r _ ih n
    obtain ⟨o, e⟩ := rd_some r
    exact .dic (hl a o e nl).2 (rd_keep r fun o e => (hl a o e nl).1) (ih (by simpa [noH] using n))
  · intro a dx c vs fs nl e _ ih n
    exact .obj (hl a _ e nl).2 (hl a _ e nl).1 (ih (by simpa [noH] using n))
  · exact fun h n => by simp [noH] at n
  · exact fun x _ => .glo x
  · exact fun n _ => .ty n
  · intro a t c ns vs ds os h0 hk ho _ ih n
    exact .ext h0 hk (fun p hp => ⟨(hl _ _ (ho p hp).2 (ho p hp).1).2, (hl _ _ (ho p hp).2 (ho p hp).1).1⟩) (ih (by simpa [noH] using n))
  · exact fun _ => .nil
  · exact fun _ _ h1 h2 n => by
      simp only [noHs, Bool.and_eq_true] at n
      exact .cons (h1 n.1) (h2 n.2)
  · exact fun _ => .nil
  · exact fun _ _ h1 h2 n => by
      simp only [noHp, Bool.and_eq_true] at n
      exact .cons (h1 n.1) (h2 n.2)
  · exact fun _ => .nil
  · exact fun _ _ h1 h2 n => by
      simp only [noHf, Bool.and_eq_true] at n
      exact .cons (h1 n.1) (h2 n.2)
theorem VRs.noh (hl : ∀ a o, H a = some o → ¬ L a → H' a = some o ∧ ¬ L' a) : ∀ {vs : List V} {ds : List Dv}, VRs K L io H vs ds → noHs ds = true → VRs K L' io' H' vs ds
  | _, _, .nil, _ => .nil
  | _, _, .cons h t, n => by
    simp only [noHs, Bool.and_eq_true] at n
    exact .cons (VR.noh hl h n.1) (VRs.noh hl t n.2)
theorem PairR.noh (hl : ∀ a o, H a = some o → ¬ L a → H' a = some o ∧ ¬ L' a) : ∀ {vs : List (Str × V)} {ds : List (Str × Dv)}, PairR (VR K L io H) vs ds → noHf ds = true → PairR (VR K L' io' H') vs ds
  | [], _, .nil, _ => .nil
  | _ :: _, (_, _) :: _, .cons ⟨h1, h2⟩ t, n => by
    simp only [noHf, Bool.and_eq_true] at n
    exact .cons ⟨h1, VR.noh hl h2 n.1⟩ (PairR.noh hl t n.2)
end
/-- the class c can be made: __init__ answers as g (the new instance first) -/
def FK (P : Program) (w : World) (K : Kw) (mg : Str → Option Value) (base : Heap) (k : Nat) (c : Str) (dl : List Dv) (g : DF) : Prop :=
  ∃ (f : Addr) (fd : FuncData) (ps : List Str) (ds : List Value) (dvs : List V), FnG P w K mg base k f fd ps (spD K g) ∧ mg c = some (.ref (He.ga K c)) ∧ Mk K (He.ga K c) f ∧ Binds K fd ps ds ∧ Vals dvs ds ∧ ∀ L io H, VRs K L io H dvs dl
def kMkE (c : Str) (S : Sto) : Res Dv → Res Dv
  | .ok .non (.ins c' fs :: _) => if c' = c ∧ noHf fs = true then .ok (.obj c fs) S else .no
  | .ex x fs (_ :: _) => if noHf fs = true then .ex x fs S else .no
  | _ => .no
def kMk (c : Str) (g : DF) (as : List Dv) (S : Sto) : Res Dv := if noHs as = true then kMkE c S (g [.ins c []] (.hdl 0 :: as)) else .no
/-- C(..), a frozen instance: made apart from the store -/
def eMk (c : Str) (dl : List Dv) (g : DF) (fa : DA) : DE := fun e S => bnd (fa e S) fun as S1 => kMk c g (as ++ dl) S1
theorem mk_spD {K : Kw} {W : WX} {c : Str} {g : DF} {st : St} {L : Addr → Prop} {io : List Addr} {H : Hp} {S : Sto} {vs : List V} {l : List Dv} {Q : VK} (sr : SR K L io H S) (r : VRs K L io H vs l) (q : Fin K W (VR K) st L io H Q (kMk c g l S)) {x dx : Addr} (hx : H x = none) (hdx : H dx = none) (hn : dx ≠ x) :
    spD K g (.ref x :: vs) (upd (upd H dx (.own x)) x (.ins (He.ga K c) dx [])) (fun v H2 => v = .non ∧ Q (.ref x) H2) (fun c d H' => W c d st H') := by
  unfold kMk at q
  split at q
  · rename_i hno
    have hH : ∀ a o, H a = some o → (upd (upd H dx (.own x)) x (.ins (He.ga K c) dx [])) a = some o := fun a o e => by
      rw [upd_ne (ne_of_none e hx), upd_ne (ne_of_none e hdx)]; exact e
    have hl1 : ∀ a o, H a = some o → ¬ L a → (upd (upd H dx (.own x)) x (.ins (He.ga K c) dx [])) a = some o ∧ ¬ Ly L x a := fun a o e n => ⟨hH a o e, fun z => z.elim n (ne_of_none e hx)⟩
    refine ⟨Ly L x, [x], [.ins c []], .hdl 0 :: l, ⟨rfl, by simp, fun a ha => .inr (by simpa using ha), fun a ha => ?_, fun k a o h1 h2 => ?_⟩, .cons (.hdl rfl) (VRs.noh hl1 r hno), ?_⟩
    · rcases ha with ha | ha
      · cases e : H a with
        | none => exact absurd e (sr.dom a ha)
        | some o => rw [hH a o e]; exact fun z => nomatch z
      · rw [ha, upd_same]; exact fun z => nomatch z
    · cases k with
      | zero => cases h1; cases h2; exact ⟨dx, [], upd_same, .nil⟩
      | succ n => simp at h1
    · have back : ∀ {H' : Hp} {io' : List Addr} (s' : Stp (Ly L x) [x] (upd (upd H dx (.own x)) x (.ins (He.ga K c) dx [])) (Lx (Ly L x) io') io' H'), Stp L io H L io H' ∧ SR K L io H' S := by
        intro H' io' s'
        have keep : ∀ a o, H a = some o → H' a = some o := fun a o e => s'.keep a o (hH a o e) fun z => by
          simp at z; exact ne_of_none e hx z
        have st1 : Stp L io H L io H' := ⟨⟨[], by simp⟩, fun _ h => .inl h, fun _ h => .inl h, fun a o e _ => keep a o e, fun _ h => h⟩
        refine ⟨st1, ⟨sr.len, sr.nd, sr.sub, fun a ha => ?_, fun k a o h1 h2 => ?_⟩⟩
        · cases e : H a with
          | none => exact absurd e (sr.dom a ha)
          | some o => rw [keep a o e]; exact fun z => nomatch z
        · exact (sr.obj k a o h1 h2).mono (fun u e => keep a u e) fun v d r => r.step st1 sr.sub
      cases hg : g [.ins c []] (.hdl 0 :: l) with
      | no => rw [hg] at q; exact q
      | ex c' fs S' =>
        rw [hg] at q
        intro xo H' io' s' sr' rx
        have ex : ∃ o r, S' = o :: r ∧ noHf fs = true := by
          unfold kMkE at q
          split at q
          · rename_i heq; cases heq
          · rename_i x1 fs1 o1 r1 heq
            cases heq
            split at q
            · rename_i hz; exact ⟨o1, r1, rfl, hz⟩
            · exact q.elim
          · exact q.elim
        obtain ⟨o, r, rfl, hfs⟩ := ex
        simp only [kMkE, hfs, if_true] at q
        obtain ⟨st1, sr1⟩ := back s'
        rcases rx with ⟨k1, k2⟩ | ⟨a, ws, e1, e2, e3, e4⟩
        · exact q xo H' L io st1 sr1 (.inl ⟨k1, k2⟩)
        exact q xo H' L io st1 sr1 (.inr ⟨a, ws, e1, fun z => e2 (.inl (.inl z)), e3, PairR.noh (fun a o e n => ⟨e, fun z => n (.inl (.inl z))⟩) e4 hfs⟩)
      | ok d S' =>
        rw [hg] at q
        intro v H' io' s' sr' rv
        have ex : ∃ c' fs r, d = .non ∧ S' = .ins c' fs :: r ∧ c' = c ∧ noHf fs = true := by
          unfold kMkE at q
          split at q
          · rename_i c' fs r heq
            cases heq
            split at q
            · rename_i hz; exact ⟨c', fs, r, rfl, rfl, hz.1, hz.2⟩
            · exact q.elim
          · rename_i heq; cases heq
          · exact q.elim
        obtain ⟨c', fs, r, rfl, rfl, rfl, hfs⟩ := ex
        simp only [kMkE, hfs, and_self, if_true] at q
        cases rv
        refine ⟨rfl, ?_⟩
        obtain ⟨st1, sr1⟩ := back s'
        have hio : io'[0]? = some x := by
          obtain ⟨m, rfl⟩ := s'.pre
          rfl
        obtain ⟨dx', ws, e1, e2⟩ := sr'.obj 0 x _ hio rfl
        exact q (.ref x) H' L io st1 sr1 (.obj (sr.fresh hx) e1 (vrf_of (PairR.noh (fun a o e n => ⟨e, fun z => n (.inl (.inl z))⟩) e2 hfs)))
  · exact q.elim
theorem make_guards {A : Around} {C : Addr} {us : List Value} {kw : List (Str × Value)} : (A.under (.builtin "type.__call__" ⟨.ref C :: us, kw⟩)).guards = A.guards := by
  first
    | rfl
    | (simp [Around.under, Code.guards, pushGuards, Code.isGuard, guardIds])
theorem RoomG.make {k : Nat} {A : Around} (h : RoomG (k + 1) A) (C : Addr) (us : List Value) (kw : List (Str × Value)) : RoomG k (A.under (.builtin "type.__call__" ⟨.ref C :: us, kw⟩)) := ⟨h.r.make C us kw, make_guards.trans h.g⟩
section
variable {X : Cx} {W : WX} {p pos : Pos} {e : Expr} {es : List Expr} {c : Str} {fa : DA} {dl : List Dv} {g : DF} {k : Nat}
/-- C(..) runs: the new instance, then its __init__ -/
theorem run_mk {C f : Addr} {fd : FuncData} {ps : List Str} {sp : Sp} {dvs : List V} {ds : List Value} {pins : List (Addr × Obj)} {st : St} {H : Hp} {s : Shared} {Q : VK} {us : List Value} {vs : List V} (M : Mk X.kw C f) (F : FnG X.prog X.w X.kw X.mg X.base k f fd ps sp) (hr : RoomG (k + 1) X.A) (hb : Binds X.kw fd ps ds) (hd : Vals dvs ds) (tk : Takes X W)
    (I : Inv X pins st H s) (r : Vals vs us)
    (h : ∀ x dx, H x = none → H dx = none → dx ≠ x → sp (.ref x :: (vs ++ dvs)) (upd (upd H dx (.own x)) x (.ins C dx [])) (fun v H2 => v = .non ∧ Q (.ref x) H2) (fun c d H' => W c d st H')) :
    wpAny (model X.prog X.w) X.A (call (.ref C) us) (EP X pins st Q) X.xe s := by
  have n1 := s.heap.objs.size
  have z := h (s.heap.objs.size + 1) s.heap.objs.size (I.hok.fresh (Nat.le_succ _)) (I.hok.fresh (Nat.le_refl _)) (Nat.ne_of_lt (Nat.lt_succ_self _))
  have J := Inv.made (C := C) I
  have r2 : Vals (V.ref (s.heap.objs.size + 1) :: (vs ++ dvs)) (Value.ref (s.heap.objs.size + 1) :: (us ++ ds)) := .cons rfl (r.append hd)
  have hl := (F.len _ _ _ _ z).symm.trans r2.length
  refine wpAny_call (make_map (f := f) I.kIn M.makes M.init (beq_iff_eq.mp M.fn) (codeAny_mono (F.run _ X.stack _ _ ⟨_, []⟩ _ _ _ _ (hr.make C us []) (J.env0.make C us []) (hb _ (Value.ref (s.heap.objs.size + 1) :: us) J.kIn hl.symm) r2 z) fun rr s' q => ?_))
  match rr, q with
  | .error e, q => exact tk e s' (XE.of_call J (fun _ _ _ q => q) q)
  | .ok .next, q => exact q.elim
  | .ok .brk, q => exact q.elim
  | .ok .cont, q => exact q.elim
  | .ok (.ret u), q =>
    obtain ⟨v, H', I3, rv, ev, q3⟩ := J.after q
    subst ev
    exact ⟨rv, V.ref (s.heap.objs.size + 1), H', I3, rfl, q3⟩
theorem qe_mkA {kk : List Dv → Sto → Res Dv} (hk : ∀ {st : St} {L : Addr → Prop} {io : List Addr} {H : Hp} {S : Sto} {vs : List V} {l : List Dv} {Q : VK}, SR X.kw L io H S → VRs X.kw L io H vs l → Fin X.kw W (VR X.kw) st L io H Q (kk l S) → ∀ {x dx : Addr}, H x = none → H dx = none → dx ≠ x →
      spD X.kw g (.ref x :: vs) (upd (upd H dx (.own x)) x (.ins (He.ga X.kw c) dx [])) (fun v H2 => v = .non ∧ Q (.ref x) H2) (fun c d H' => W c d st H')) (F : FK X.prog X.w X.kw X.mg X.base k c dl g) (hr : RoomG (k + 1) X.A) (tk : Takes X W) (ha : QA X W (e :: es) fa) (hg : Gl X c) (hdb : (c == ("__debug__" : Str)) = false)
    (he : starEach (e :: es) X.env = (false, eval e X.env) :: starEach es X.env) (hpl : (backTo pos (starEach es X.env)).any (·.1) = false) : QE X W (.Call (.Name c p) (e :: es) [] pos) (fun e S => bnd (fa e S) fun as S1 => kk (as ++ dl) S1) := by
  obtain ⟨f, fd, ps, ds, dvs, F, hm, M, hb, hv, hd⟩ := F
  refine ⟨fun pins s st H Q I q => wpAny_Call_Name_kw (ld_glob I hg hm ?_ hdb)⟩
  refine PySem.W.callWith_K (h₀ := X.base) I.ok.mod.kin M.kp (thn (ha.run pos pins s st H _ I ?_) fun us s1 ⟨vs, H1, I1, r, q⟩ => ⟨I1.kIn, run_mk (Q := Q) M F hr hb hv tk I1 r q⟩) he hpl
  exact Rdg.bind (R := VRs X.kw) (k := fun _ as S1 => kk (as ++ dl) S1) q fun L0 io0 H0 L io H1 e S as vs fr rv q x dx hx hdx hn => hk fr.st (rv.app (hd _ _ _)) q hx hdx hn
end
end DL
namespace DL
open PySem L2
structure Dfn where
  ad : PySem.W.Frag → Addr
  name : Str
  qual : Str
  params : Arguments
  body : List Stmt
  scope : Scope
  dfl : List He.Dv := []
  kwd : List (Str × He.Dv) := []
def fnA (K : PySem.W.Frag) (a : Addr) : He.FnW := match K.lookup a with
  | some ⟨_, _, .func fd, _⟩ => some (fd.name, fd.qualname, fd.params, fd.body, fd.scope, fd.globals, fd.closure, fd.builtins)
  | _ => none
def Dfn.val (d : Dfn) : He.FnW := some (d.name, d.qual, d.params, .stmts d.body, d.scope, mainGlobals, [], builtinsNs)
def Dfn.dvs (K : PySem.W.Frag) (d : Dfn) : List V := d.dfl.map (He.Dv.v K)
def Dfn.kws (K : PySem.W.Frag) (d : Dfn) : List (Str × V) := d.kwd.map fun q => (q.1, q.2.v K)
def Dfn.ok (K : PySem.W.Frag) (d : Dfn) : Bool := PySem.W.keepIn K (.ref (d.ad K)) && (match K.lookup (d.ad K) with
  | some ⟨_, _, .func fd, _⟩ => PySem.W.codeIn K fd.code d.qual && (He.dflB K fd.defaults (d.dvs K) && He.kwdB K fd.kwdefaults (d.kws K))
  | _ => false)
theorem Dfn.funD {K : PySem.W.Frag} {d : Dfn} (e : fnA K (d.ad K) = d.val) (c : d.ok K = true) : ∃ fd, FunD K d.name d.qual d.params d.body d.scope (d.dvs K) (d.kws K) (d.ad K) fd := by
  obtain ⟨kp, c2⟩ := He.ba c
  unfold fnA at e
  cases q : K.lookup (d.ad K) with
  | none =>
    rw [q] at c2
    cases c2
  | some o =>
    obtain ⟨oc, od, dt, osl⟩ := o
    rw [q] at c2 e
    cases dt with
    | func fd =>
      obtain ⟨n1, n2, n3, n4, n5, n6, n7, n8, n9, n10, n11, n12, n13, n14, n15⟩ := fd
      have e2 : (some (n1, n2, n3, n4, n5, n6, n7, n15) : He.FnW) = some (d.name, d.qual, d.params, .stmts d.body, d.scope, mainGlobals, [], builtinsNs) := e
      simp only [Option.some.injEq, Prod.mk.injEq] at e2
      obtain ⟨h1, h2, h3, h4, h5, h6, h7, h8⟩ := e2
      subst h1 h2 h3 h4 h5 h6 h7 h8
      have c3 : (PySem.W.codeIn K n13 d.qual && (He.dflB K n8 (d.dvs K) && He.kwdB K n9 (d.kws K))) = true := c2
      obtain ⟨k1, k2⟩ := He.ba c3
      obtain ⟨k3, k4⟩ := He.ba k2
      exact ⟨_, ⟨oc, od, n8, n9, n10, n11, n12, n13, n14, osl, rfl, q, k1, He.dflB_ok k3, He.kwdB_ok k4⟩, kp⟩
    | _ => cases c2
abbrev AlN : Type := (Bool × List He.FnW) × List (Option (List (Option (Str × Int))))
def obsN (fa : List Ft) (fn : List Dfn) (ts : List He.Tab) (K : PySem.W.Frag) : AlN := (((fa.all fun f => f.ok K) && fn.all fun d => d.ok K, fn.map fun d => fnA K (d.ad K)), ts.map fun t => He.dicW K (t.1 K))
def valN (fn : List Dfn) (ts : List He.Tab) (w : World) : AlN := ((true, fn.map Dfn.val), ts.map fun t => some (He.keysIn w.params t.2))
def SaysN (fa : List Ft) (fn : List Dfn) (ts : List He.Tab) (w : World) (K : PySem.W.Frag) : Prop := obsN fa fn ts K = valN fn ts w
section
variable {fa : List Ft} {fn : List Dfn} {ts : List He.Tab} {w : World} {K : PySem.W.Frag}
theorem SaysN.fact (c : SaysN fa fn ts w K) (i : Nat) {f : Ft} (h : fa[i]? = some f := by rfl) : f.ok K = true := by
  have c1 := (He.ba (show ((fa.all fun f => f.ok K) && fn.all fun d => d.ok K) = true from congrArg (fun z : AlN => z.1.1) c)).1
  exact List.all_eq_true.mp c1 f (List.mem_of_getElem? h)
theorem SaysN.def_ (c : SaysN fa fn ts w K) (i : Nat) {d : Dfn} (h : fn[i]? = some d := by rfl) : ∃ fd, FunD K d.name d.qual d.params d.body d.scope (d.dvs K) (d.kws K) (d.ad K) fd := by
  have c2 := (He.ba (show ((fa.all fun f => f.ok K) && fn.all fun d => d.ok K) = true from congrArg (fun z : AlN => z.1.1) c)).2
  have e : fn.map (fun d => fnA K (d.ad K)) = fn.map Dfn.val := congrArg (fun z : AlN => z.1.2) c
  have e2 : (fn.map fun d => fnA K (d.ad K))[i]? = (fn.map Dfn.val)[i]? := by rw [e]
  rw [List.getElem?_map, List.getElem?_map, h] at e2
  exact Dfn.funD (Option.some.inj e2) (List.all_eq_true.mp c2 d (List.mem_of_getElem? h))
end
/-- the head's facts of classes -/
def faB (f : He.Fa) : Ft := .any fun K => f.ok K
theorem cls_f {K : PySem.W.Frag} {x : Str} (c : (faB (.cls x)).ok K = true) : Cls K (He.ga K x) := He.cls_ok c
theorem noat_f {K : PySem.W.Frag} {x f : Str} (c : (faB (.noat x f)).ok K = true) : NoAttr K (He.ga K x) f := He.noat_ok c
theorem meth_f {K : PySem.W.Frag} {x f : Str} (c : (faB (.meth x f)).ok K = true) : Meth K (He.ga K x) f (He.ma K (He.ga K x) f) := He.meth_ok c
theorem mkr_f {K : PySem.W.Frag} {x : Str} (c : (faB (.mkr x)).ok K = true) : Mk K (He.ga K x) (He.ma K (He.ga K x) "__init__") := He.mkr_ok c
end DL
namespace DL
open PySem L2
def dnA : Nat → List Addr
  | 0 => [0]
  | n + 1 => (n + 1) :: dnA n
def adA (m : Nat) : List Addr := 3 :: 2 :: dnA m
def obsNA (m : Nat) (fa : List Ft) (fn : List Dfn) (ts : List He.Tab) (g : Addr → Option Obj) : AlN := obsN fa fn ts (He.frG g (adA m))
def hookA (m : Nat) (fa : List Ft) (fn : List Dfn) (ts : List He.Tab) : PySem.W.Hook where
  α := AlN
  obs := fun s => obsNA m fa fn ts s.heap.get?
  val := fun w => valN fn ts w
  says := fun w h => ∃ K : PySem.W.Frag, K.In h ∧ SaysN fa fn ts w K
  of := fun _ _ e => ⟨_, He.frG_in, e⟩
  keeps := fun _ _ _ ⟨K, hK, c⟩ k => ⟨K, PySem.W.Frag.In.keeps hK k, c⟩
theorem obsNA_eq {m : Nat} {fa : List Ft} {fn : List Dfn} {ts : List He.Tab} {g : Addr → Option Obj} {s : Shared} (h : ∀ a, g a = s.heap.get? a) : obsNA m fa fn ts g = (hookA m fa fn ts).obs s := by
  have e : g = s.heap.get? := funext h
  rw [e] <;> rfl
end DL
namespace DL
open PySem PySem.Spec PyProof.Rows L2
def tabD (l : List (Str × Dv)) (d : Dv) (S : Sto) : Res Dv := match d with
  | .str z => (match l.lookup z with
    | some x => .ok x S
    | none => .no)
  | _ => .no
def eTab (l : List (Str × Dv)) (fi : DE) : DE := fun e S => bnd (fi e S) (tabD l)
def revD (d : Dv) (S : Sto) : Res Dv := match d with
  | .tup l => .ok (.tup l.reverse) S
  | _ => .no
def eRevT (f : DE) : DE := fun e S => bnd (f e S) revD
def idxS (z : Str) : List Dv → Option Nat
  | [] => none
  | .str y :: l => if y = z then some 0 else (idxS z l).map (· + 1)
  | _ => none
def allS : List Dv → Bool
  | [] => true
  | .str _ :: l => allS l
  | _ => false
def tixE (l : List Dv) (x : Dv) (S : Sto) : Res Dv := match x with
  | .str z => if allS l then (match idxS z l with
    | some n => .ok (.int (n : Nat)) S
    | none => .no) else .no
  | _ => .no
end DL
namespace DL
open PySem PySem.Spec PyProof.Rows L2
def eCm (c : Str) (g : DF) (fa : DA) : DE := fun e S => bnd (fa e S) fun l S1 => g S1 (.glo c :: l)
/-- the class c can be made, __init__ answers as g; B: how its arguments are bound -/
def FI (P : Program) (w : World) (K : Kw) (mg : Str → Option Value) (base : Heap) (k : Nat) (c : Str) (B : Kw → Addr → FuncData → List Str → Prop) (g : DF) : Prop :=
  ∃ (f : Addr) (fd : FuncData) (ps : List Str), FnG P w K mg base k f fd ps (spD K g) ∧ mg c = some (.ref (He.ga K c)) ∧ Mk K (He.ga K c) f ∧ B K f fd ps
/-- .. values alone: dl, the data behind them -/
def PoB (K : Kw) (B : Kw → Addr → FuncData → List Str → Prop) (dl : List Dv) : Prop :=
  ∀ f fd ps, B K f fd ps → ∃ (ds : List Value) (dvs : List V), Binds K fd ps ds ∧ Vals dvs ds ∧ ∀ L io H, VRs K L io H dvs dl
theorem FI.fk {P : Program} {K : Kw} {mg : Str → Option Value} {base : Heap} {k : Nat} {c : Str} {B : Kw → Addr → FuncData → List Str → Prop} {g : DF} {dl : List Dv} (F : FI P K.w K mg base k c B g) (b : PoB K B dl) : FK P K.w K mg base k c dl g := by
  obtain ⟨f, fd, ps, F, hm, M, hB⟩ := F
  obtain ⟨ds, dvs, h1, h2, h3⟩ := b f fd ps hB
  exact ⟨f, fd, ps, ds, dvs, F, hm, M, h1, h2, h3⟩
section
variable {P : Program} {w : World} {K : Kw} {mg : Str → Option Value} {base : Heap} {c m qual : Str} {st : Stmt} {N ps : List Str} {k np n : Nat} {fb : DS}
/-- a def's binding of values alone, no defaults -/
abbrev BindN (m qual : Str) (st : Stmt) (ps : List Str) : Prop := ∀ (kV doc pm : Value) (an : Option Addr) (cdv ct : Value) (us : List Value), us.length = ps.length → bindArgs (PySem.W.fnOf m qual (defArgs st) (defBody st) (defScope st) .none kV doc pm an cdv ct) ⟨us, []⟩ = pure (ps.zip us)
theorem fm_mk {kws : List (Str × V)} (F : ∃ fd, FunD K m qual (defArgs st) (defBody st) (defScope st) [] kws (He.ma K (He.ga K c) m) fd) (hc : Cls K (He.ga K c)) (hm : Meth K (He.ga K c) m (He.ma K (He.ga K c) m)) (Sc : FnScope N ps (defScope st)) (hbi : BindN m qual st ps)
    (hnp : ps.length = np) (hn : N.length = n) (hb : BodyG P K.w K mg base N qual (defScope st) (He.ma K (He.ga K c) m) (k + 1) (defBody st) fb) : FM P K.w K mg base (k + 2) c m [] (runF np n fb) := by
  subst hnp hn
  obtain ⟨fd, F⟩ := F
  exact ⟨_, fd, ps, [], [], fn_mk F Sc hb, hc, hm, F.bindsN hbi, .nil, fun _ _ _ => .nil⟩
theorem fm_no {kws : List (Str × V)} (F : ∃ fd, FunD K m qual (defArgs st) (defBody st) (defScope st) [] kws (He.ma K (He.ga K c) m) fd) (hc : Cls K (He.ga K c)) (hm : Meth K (He.ga K c) m (He.ma K (He.ga K c) m)) (hbi : BindN m qual st ps) : FM P K.w K mg base k c m [] gNo := by
  obtain ⟨fd, F⟩ := F
  exact ⟨_, fd, ps, [], [], FnG.never spD_no, hc, hm, F.bindsN hbi, .nil, fun _ _ _ => .nil⟩
/-- __init__ as the text says it -/
def InB (qual : Str) (st : Stmt) (ps : List Str) (dvs : Kw → List V) (kws : Kw → List (Str × V)) : Kw → Addr → FuncData → List Str → Prop := fun K f fd ps' => ps' = ps ∧ FunD K "__init__" qual (defArgs st) (defBody st) (defScope st) (dvs K) (kws K) f fd
theorem fi_mk {dvs : Kw → List V} {kws : Kw → List (Str × V)} (F : ∃ fd, FunD K "__init__" qual (defArgs st) (defBody st) (defScope st) (dvs K) (kws K) (He.ma K (He.ga K c) "__init__") fd) (hm : mg c = some (.ref (He.ga K c))) (M : Mk K (He.ga K c) (He.ma K (He.ga K c) "__init__")) (Sc : FnScope N ps (defScope st))
    (hnp : ps.length = np) (hn : N.length = n) (hb : BodyG P K.w K mg base N qual (defScope st) (He.ma K (He.ga K c) "__init__") (k + 1) (defBody st) fb) : FI P K.w K mg base (k + 2) c (InB qual st ps dvs kws) (runF np n fb) := by
  subst hnp hn
  obtain ⟨fd, F⟩ := F
  exact ⟨_, fd, ps, fn_mk F Sc hb, hm, M, rfl, F⟩
theorem fi_no {dvs : Kw → List V} {kws : Kw → List (Str × V)} (F : ∃ fd, FunD K "__init__" qual (defArgs st) (defBody st) (defScope st) (dvs K) (kws K) (He.ma K (He.ga K c) "__init__") fd) (hm : mg c = some (.ref (He.ga K c))) (M : Mk K (He.ga K c) (He.ma K (He.ga K c) "__init__")) :
    FI P K.w K mg base k c (InB qual st ps dvs kws) gNo := by
  obtain ⟨fd, F⟩ := F
  exact ⟨_, fd, ps, FnG.never spD_no, hm, M, rfl, F⟩
theorem pob0 (hbi : BindN "__init__" qual st ps) {kws : Kw → List (Str × V)} : PoB K (InB qual st ps (fun _ => []) kws) [] := fun f fd ps' ⟨e, F⟩ => by
  subst e
  exact ⟨[], [], F.bindsN hbi, .nil, fun _ _ _ => .nil⟩
end
def readB (c : Str) : Ft := .any fun K => PySem.W.readsIn K (He.ga K c) (.type "type")
theorem read_f {K : PySem.W.Frag} {c : Str} (h : (readB c).ok K = true) : ClX.CRead K (He.ga K c) (.type "type") := by
  have h0 : PySem.W.readsIn K (He.ga K c) (.type "type") = true := h
  refine ⟨h0, ?_⟩
  unfold PySem.W.readsIn at h0
  obtain ⟨h, _⟩ := He.ba h0
  obtain ⟨h, _⟩ := He.ba h
  obtain ⟨h, h3⟩ := He.ba h
  obtain ⟨_, h2⟩ := He.ba h
  unfold PySem.W.specialIn
  rw [beq_iff_eq.mp h2, Option.bind_some]
  exact beq_iff_eq.mp h3
end DL
namespace DL
open PySem PySem.Spec PyProof.Rows L2
/-- a source: a list (true) or a tuple -/
def SqS (K : PySem.W.Frag) (H : Hp) (b : Bool) (a : Addr) (xs : List V) : Prop := match b with
  | true => SqL K H a xs
  | false => SqT K H a xs
def SrcAt (b : Bool) (h : Heap) (a : Addr) (its : Array Value) : Prop := match b with
  | true => h.IsList a its
  | false => h.IsTuple a its
def IsIt (b : Bool) (h : Heap) (it a : Addr) (i : Nat) : Prop := match b with
  | true => h.IsListIter it a i
  | false => h.IsTupleIter it a i
def itObj (b : Bool) (a : Addr) : Obj := match b with
  | true => { cls := .type "list_iterator", data := .fields #[.ref a, .int 0 0] }
  | false => { cls := .type "tuple_iterator", data := .fields #[.ref a, .int 0 0] }
section
variable {X : Cx} {pins : List (Addr × Obj)} {σ : L2.St} {H : Hp} {s : Shared} {b : Bool} {a it : Addr} {xs ys : List V}
theorem src_at (I : Inv X pins σ H s) (hq : SqS X.K H b a xs) : ∃ its, Vals xs its ∧ SrcAt b s.heap a its.toArray := by
  cases b with
  | true => obtain ⟨its, rv, p, _⟩ := I.list hq; exact ⟨its, rv, p.isList⟩
  | false => obtain ⟨its, rv, p, _⟩ := I.tuple hq; exact ⟨its, rv, p⟩
theorem src_inj (I : Inv X pins σ H s) (h1 : SqS X.K H b a xs) (h2 : SqS X.K H b a ys) : xs = ys := by
  cases b with
  | true => exact I.list_inj h1 h2
  | false => exact I.tuple_inj h1 h2
theorem src_lt {h : Heap} {its : Array Value} (p : SrcAt b h a its) : a < h.objs.size := by
  cases b with
  | true => obtain ⟨_, q, _⟩ := (show h.IsList a its from p); exact Heap.lt_size q
  | false => obtain ⟨_, q, _⟩ := (show h.IsTuple a its from p); exact Heap.lt_size q
theorem it_obj {h : Heap} {i : Nat} (p : IsIt b h it a i) : ∃ o, h.get? it = some o ∧ ∀ v, o.data ≠ .cell v := by
  cases b with
  | true => obtain ⟨o, q, _, d⟩ := (show h.IsListIter it a i from p); exact ⟨o, q, fun v z => by rw [d] at z; cases z⟩
  | false => obtain ⟨o, q, _, d⟩ := (show h.IsTupleIter it a i from p); exact ⟨o, q, fun v z => by rw [d] at z; cases z⟩
theorem it_keep {h h' : Heap} {i : Nat} (p : IsIt b h it a i) (k : ∀ o, h.get? it = some o → h'.get? it = some o) : IsIt b h' it a i := by
  cases b with
  | true => exact Heap.IsListIter.at (show h.IsListIter it a i from p) k
  | false => exact Heap.IsTupleIter.at (show h.IsTupleIter it a i from p) k
theorem it_new {h : Heap} (e : h.get? it = some (itObj b a)) : IsIt b h it a 0 := by
  cases b with
  | true => exact ⟨_, e, rfl, rfl⟩
  | false => exact ⟨_, e, rfl, rfl⟩
theorem src_begins (b : Bool) (a : Addr) (its : Array Value) : Begins (.ref a) (itObj b a) fun h => SrcAt b h a its := by
  cases b with
  | true => exact begins_list a its
  | false => exact begins_tuple a its
theorem src_draws {prog : Program} {w : World} {A : Around} (hh : A.handled = none) (b : Bool) (it a : Addr) (hne : a ≠ it) (its : Array Value) :
    Draws prog w A it [it, a] its.size (fun i v => its[i]? = some v) (fun i h => IsIt b h it a i ∧ SrcAt b h a its) := by
  cases b with
  | true => exact Draws.list hh it a hne its
  | false => exact Draws.tuple hh it a hne its
end
section
variable {K : Kw} {L : Addr → Prop} {io : List Addr} {H : Hp}
/-- a list or tuple that no handle holds -/
def asSq : Dv → Option (Bool × List Dv)
  | .lst l => some (true, l)
  | .rol l => some (true, l)
  | .tup l => some (false, l)
  | _ => none
theorem asSq_ok {v : V} {d : Dv} {b : Bool} {l : List Dv} (r : VR K L io H v d) (h : asSq d = some (b, l)) : ∃ a xs, v = .ref a ∧ SqS K H b a xs ∧ VRs K L io H xs l := by
  cases d with
  | lst m => cases h; exact asF_ok r rfl
  | rol m => cases h; exact asF_ok r rfl
  | tup m => cases h; exact r.tupS
  | _ => cases h
def enumD (l : List Dv) : List Dv := l.mapIdx fun i d => .tup [.int (i : Nat), d]
def zipD (l m : List Dv) : List Dv := (l.zip m).map fun q => .tup [q.1, q.2]
end
def enumR : List Dv → Sto → Res (List Dv)
  | [d], S => match asSq d with
    | some (_, l) => .ok (enumD l) S
    | none => .no
  | _, _ => .no
def zipR : List Dv → Sto → Res (List Dv)
  | [d, d2], S => match asSq d, asSq d2 with
    | some (_, l), some (_, m) => .ok (zipD l m) S
    | _, _ => .no
  | _, _ => .no
def iEnum' (fa : DA) : DL := fun e S => bnd (fa e S) enumR
def iZip' (fa : DA) : DL := fun e S => bnd (fa e S) zipR
end DL
namespace DL
open PySem L2
end DL
namespace DL
open PySem L2
def eChn (h h' : Sto → Dv → Dv → Option (Dv × Sto)) (f1 f2 f3 : DE) : DE := fun e S => bnd (f1 e S) fun a S1 => bnd (f2 e S1) fun b S2 => bnd (ofO (h S2 a b)) fun z S3 => match z with
  | .bl true => bnd (f3 e S3) fun c S4 => ofO (h' S4 b c)
  | .bl false => .ok (.bl false) S3
  | _ => .no
theorem rd_chn {K : Kw} {W : WX} {r r' : R2} {h h' : Sto → Dv → Dv → Option (Dv × Sto)} {f1 f2 f3 : DE} (ho : OpS K r h) (ho' : OpS K r' h') {g : St} {H : Hp} {Q : VK} (q : rd K W (eChn h h' f1 f2 f3) g H Q) : tChain r r' (Rdg K W (VX K) f1) (Rdg K W (VX K) f2) (Rdg K W (VX K) f3) g H Q := by
  unfold eChn at q
  refine Rdg.bind (R := VX K) (k := fun e a S1 => bnd (f2 e S1) fun b S2 => bnd (ofO (h S2 a b)) fun z S3 => match z with
    | .bl true => bnd (f3 e S3) fun c S4 => ofO (h' S4 b c)
    | .bl false => .ok (.bl false) S3
    | _ => .no) q fun L0 io0 H0 L io H1 e S a v fr ra q => ?_
  refine Fin.bind (R := VX K) (k := fun b S2 => bnd (ofO (h S2 a b)) fun z S3 => match z with
    | .bl true => bnd (f3 e S3) fun c S4 => ofO (h' S4 b c)
    | .bl false => .ok (.bl false) S3
    | _ => .no) fr q fun L2 io2 H2 S2 b w s2 fr2 rb q => ?_
  cases hz : h S2 a b with
  | none => rw [hz] at q; exact q.elim
  | some z =>
    obtain ⟨z, S3⟩ := z
    rw [hz] at q
    refine ho L2 io2 H2 S2 v w a b z S3 _ fr2.st (ra.step s2 fr.st.sub) rb hz fun u H3 L3 io3 s3 sr3 r3 => ?_
    cases r3 with
    | bl k =>
      refine ⟨k, rfl, ?_⟩
      have fr3 := fr2.step s3 sr3
      cases k with
      | true =>
        rw [if_pos rfl]
        have q3 := Fin.later (L := L2) (io := io2) (H := H2) q s3 fr2.st.sub
        refine Fin.bind (R := VX K) (k := fun c S4 => ofO (h' S4 b c)) fr3 q3 fun L4 io4 H4 S4 c y s4 fr4 rc q => ?_
        obtain ⟨d, S5, h1, h2⟩ := q.opt
        exact ho' L4 io4 H4 S4 w y b c d S5 Q fr4.st ((rb.step s3 fr2.st.sub).step s4 fr3.st.sub) rc h1 h2
      | false =>
        rw [if_neg Bool.false_ne_true]
        exact q (.bl false) H3 L3 io3 s3 sr3 (.bl false)
    | _ => exact q.elim
section
variable {X : Cx} {W : WX} {pos : Pos} {a b c : Expr} {f1 f2 f3 : DE} {r r' : R2} {h h' : Sto → Dv → Dv → Option (Dv × Sto)} {op op' : CmpOp}
theorem qt_chn (ho : OpR X (compareOp op) r) (hs : OpS X.kw r h) (ho' : OpR X (compareOp op') r') (hs' : OpS X.kw r' h') (ha : QX X W a f1) (hb : QX X W b f2) (hc : QX X W c f3) (hm : lastMarks [op, op'] [b, c] = false := by with_unfolding_all rfl) :
    QT X W (.Compare a [op, op'] [b, c] pos) (tVal (eChn h h' f1 f2 f3)) := pt_imp (pt_chain ho ho' ha hb hc hm) fun g H Q q => by
  have z := rd_tval q
  exact (show tTest (tChain r r' (Rdg X.kw W (VX X.kw) f1) (Rdg X.kw W (VX X.kw) f2) (Rdg X.kw W (VX X.kw) f3)) g H Q from rd_chn hs hs' z)
theorem os_lt {K : Kw} : OpS K (rI0 fun i j => .bl (decide (i < j))) (pu2 ltD) := ops_int0 fun _ _ _ _ _ => .bl _
theorem os_le {K : Kw} : OpS K (rI0 fun i j => .bl (decide (i ≤ j))) (pu2 leD) := ops_int0 fun _ _ _ _ _ => .bl _
end
def rngK (neg : Bool) (a : Dv) (l : List Dv) (S : Sto) : Res Dv := match a, l with
  | .int i, [.int lo, .int hi] => .ok (.bl (if neg then !decide (lo ≤ i ∧ i < hi) else decide (lo ≤ i ∧ i < hi))) S
  | _, _ => .no
def eRngIn (neg : Bool) (f1 : DE) (fa : DA) : DE := fun e S => bnd (f1 e S) fun a S1 => bnd (fa e S1) fun l S2 => rngK neg a l S2
/-- data as a whole, dicts too -/
def keyP : Key → PyData
  | .inl i => .int i
  | .inr x => .str x
mutual
inductive Dq (K : Kw) (H : Hp) : V → PyData → Prop
  | non : Dq K H .non .none
  | bl (b : Bool) : Dq K H (.bl b) (.bool b)
  | int (i : Int) : Dq K H (.int i) (.int i)
  | str (x : Str) : Dq K H (.str x) (.str x)
  | lst {a : Addr} {xs : List V} {ds : List PyData} : SqL K H a xs → DqAll K H xs ds → Dq K H (.ref a) (.list ds)
  | tup {a : Addr} {xs : List V} {ds : List PyData} : SqT K H a xs → DqAll K H xs ds → Dq K H (.ref a) (.tuple ds)
  | dct {a : Addr} {kvs : List (Key × V)} {ds : List PyData} : Rd H a (.dK kvs) → DqAll K H (kvs.map (·.2)) ds → Dq K H (.ref a) (.dict ((kvs.map fun q => keyP q.1).zip ds))
inductive DqAll (K : Kw) (H : Hp) : List V → List PyData → Prop
  | nil : DqAll K H [] []
  | cons {v : V} {vs : List V} {d : PyData} {ds : List PyData} : Dq K H v d → DqAll K H vs ds → DqAll K H (v :: vs) (d :: ds)
end
theorem DqAll.len {K : Kw} {H : Hp} : ∀ {vs : List V} {ds : List PyData}, DqAll K H vs ds → vs.length = ds.length
  | _, _, .nil => rfl
  | _, _, .cons _ t => by rw [List.length_cons, List.length_cons, t.len]
section
variable {X : Cx} {pins : List (Addr × Obj)} {σ : St} {H : Hp} {s : Shared}
/-- keys of a dict are read -/
theorem keys_read {P : Program} {w : World} {h : Heap} : ∀ {es : List DictEntry} {vs : List (Key × Value)}, Pairs (mixKind P w) es vs → ReadsAll h (es.map (·.key)) (vs.map fun q => keyP q.1) []
  | _, _, .nil => .nil
  | e :: es, (k, v) :: vs, .cons hk hv t => by
    have h1 : Reads h e.key (keyP k) [] := by
      rcases keyIs_shape (k := k) (v := e.key) hk with ⟨i, u, rfl, e1⟩ | ⟨x, u, rfl, e1⟩
      · rw [e1]; exact .int i u
      · rw [e1]; exact .str x u
    exact .cons (as := []) h1 (keys_read t)
theorem vals_at {P : Program} {w : World} : ∀ {es : List DictEntry} {vs : List (Key × Value)}, Pairs (mixKind P w) es vs → es.map (·.val) = vs.map (·.2)
  | _, _, .nil => rfl
  | e :: es, (k, v) :: vs, .cons hk hv t => by
    have hv : e.val = v := hv
    rw [List.map_cons, List.map_cons, hv, vals_at t]
theorem kv_keys : ∀ {kvs : List (Key × V)} {vs : List (Key × Value)}, KV kvs vs → kvs.map (fun q => keyP q.1) = vs.map (fun q => keyP q.1) ∧ Vals (kvs.map (·.2)) (vs.map (·.2))
  | _, _, .nil => ⟨rfl, .nil⟩
  | _, _, .cons r t => by
    obtain ⟨h1, h2⟩ := kv_keys t
    exact ⟨by rw [List.map_cons, List.map_cons, h1, r.1], .cons r.2 h2⟩
theorem Dq.reads (I : Inv X pins σ H s) (hs : SysB X.base) {v : V} {d : PyData} (h : Dq X.kw H v d) : ∀ u, RelV v u → ∃ as, Reads s.heap u d as ∧ sysModules ∉ as := by
  refine Dq.rec (motive_1 := fun v d _ => ∀ u, RelV v u → ∃ as, Reads s.heap u d as ∧ sysModules ∉ as) (motive_2 := fun vs ds _ => ∀ us, Vals vs us → ∃ as, ReadsAll s.heap us ds as ∧ sysModules ∉ as) ?_ ?_ ?_ ?_ ?_ ?_ ?_ ?_ ?_ h
  · intro u r; cases r; exact ⟨_, Reads.none, fun z => nomatch z⟩
  · intro b u r; cases r; exact ⟨_, Reads.bool b, fun z => nomatch z⟩
  · intro i u r; obtain ⟨t, rfl⟩ := r; exact ⟨_, Reads.int i t, fun z => nomatch z⟩
  · intro x u r; obtain ⟨t, rfl⟩ := r; exact ⟨_, Reads.str x t, fun z => nomatch z⟩
  · intro a xs ds hl _ ih u r
    cases r
    obtain ⟨its, rv, ⟨o, n, ho, hc, _, hd⟩, _⟩ := I.list hl
    obtain ⟨as, hr, hn⟩ := ih its rv
    refine ⟨_, Reads.list ho hc hd hr, fun z => ?_⟩
    rcases List.mem_cons.mp z with z | z
    · obtain ⟨mm, o', es, ep, e1, e2, _⟩ := hs
      have e3 := I.bk _ _ e1
      rw [z, ho] at e3
      cases e3
      rw [hd] at e2
      cases e2
    · exact hn z
  · intro a xs ds hl _ ih u r
    cases r
    obtain ⟨its, rv, ⟨o, ho, hc, n, hd⟩, _⟩ := I.tuple hl
    obtain ⟨as, hr, hn⟩ := ih its rv
    exact ⟨_, Reads.tuple ho hc hd hr, hn⟩
  · intro a kvs ds ha hv ih u r
    cases r
    obtain ⟨_, hsm, vs, kv, o, es, ep, e1, e2, e3, _, e5, _⟩ := dk_rd I.hok ha
    obtain ⟨k1, k2⟩ := kv_keys kv
    have hl : (kvs.map fun q => keyP q.1).length = ds.length := by rw [List.length_map, ← hv.len, List.length_map]
    obtain ⟨as, hr, hn⟩ := ih _ k2
    have q1 : ReadsAll s.heap (es.toList.map (·.key)) (((kvs.map fun q => keyP q.1).zip ds).map (·.1)) [] := by
      rw [List.map_fst_zip (Nat.le_of_eq hl), k1]; exact keys_read e5
    have q2 : ReadsAll s.heap (es.toList.map (·.val)) (((kvs.map fun q => keyP q.1).zip ds).map (·.2)) as := by
      rw [List.map_snd_zip (Nat.le_of_eq hl.symm), vals_at e5]; exact hr
    refine ⟨_, Reads.dict e1 e2.1 e3 q1 q2, fun z => ?_⟩
    simp only [List.cons_append, List.nil_append, List.mem_cons] at z
    rcases z with z | z
    · rw [z] at hsm; simp at hsm
    · exact hn z
  · intro us r; cases r; exact ⟨_, ReadsAll.nil, fun z => nomatch z⟩
  · intro v vs d ds _ _ ih1 ih2 us r
    cases r with
    | cons r1 r2 =>
      obtain ⟨as, q1, n1⟩ := ih1 _ r1
      obtain ⟨bs, q2, n2⟩ := ih2 _ r2
      exact ⟨_, ReadsAll.cons q1 q2, fun z => (List.mem_append.mp z).elim n1 n2⟩
end
mutual
def toQ : Dv → Option PyData
  | .non => some .none
  | .bl b => some (.bool b)
  | .int i => some (.int i)
  | .str x => some (.str x)
  | .tup l => (toQs l).map .tuple
  | .lst l => (toQs l).map .list
  | .rol l => (toQs l).map .list
  | .dic l => (toQp l).map fun ds => .dict ((l.map fun q => keyP q.1).zip ds)
  | .obj _ _ => none
  | .hdl _ => none
  | .glo _ => none
  | .ty _ => none
  | .ext _ _ _ _ => none
def toQs : List Dv → Option (List PyData)
  | [] => some []
  | d :: l => (toQ d).bind fun p => (toQs l).map fun ps => p :: ps
def toQp : List (Key × Dv) → Option (List PyData)
  | [] => some []
  | (_, d) :: l => (toQ d).bind fun p => (toQp l).map fun ps => p :: ps
end
theorem toQp_eq : ∀ l : List (Key × Dv), toQp l = toQs (l.map (·.2))
  | [] => rfl
  | (k, d) :: l => by
    rw [List.map_cons]
    unfold toQp toQs
    rw [toQp_eq l]
section
variable {K : Kw} {L : Addr → Prop} {io : List Addr} {H : Hp} {S : Sto}
theorem toQ_ok {v : V} {d : Dv} (r : VR K L io H v d) : ∀ p, toQ d = some p → Dq K H v p := by
  refine VR.rec (motive_1 := fun v d _ => ∀ p, toQ d = some p → Dq K H v p) (motive_2 := fun vs ds _ => ∀ ps, toQs ds = some ps → DqAll K H vs ps) (motive_3 := fun kvs l _ => (∀ ps, toQs (l.map (·.2)) = some ps → DqAll K H (kvs.map (·.2)) ps) ∧ (l.map fun q => keyP q.1) = kvs.map fun q => keyP q.1) (motive_4 := fun _ _ _ => True)
    ?_ ?_ ?_ ?_ ?_ ?_ ?_ ?_ ?_ ?_ ?_ ?_ ?_ ?_ ?_ ?_ ?_ ?_ ?_ ?_ ?_ r
  · intro p e; cases e; exact .non
  · intro b p e; cases e; exact .bl b
  · intro b p e; cases e; exact .int b
  · intro b p e; cases e; exact .str b
  · intro a xs ds _ h _ ih p e
    simp only [toQ] at e
    obtain ⟨ps, h1, rfl⟩ := map_ok e
    exact .tup (SqT.of h) (ih ps h1)
  · intro a xs ds h _ ih p e
    simp only [toQ] at e
    obtain ⟨ps, h1, rfl⟩ := map_ok e
    exact .tup (h.1 H) (ih ps h1)
  · intro a xs ds _ h _ ih p e
    simp only [toQ] at e
    obtain ⟨ps, h1, rfl⟩ := map_ok e
    exact .lst (SqL.of h) (ih ps h1)
  · intro a xs ds _ h _ ih p e
    simp only [toQ] at e
    obtain ⟨ps, h1, rfl⟩ := map_ok e
    exact .lst (.inl h) (ih ps h1)
  · intro a xs ds h _ ih p e
    simp only [toQ] at e
    obtain ⟨ps, h1, rfl⟩ := map_ok e
    exact .lst (h H) (ih ps h1)
  · intro a kvs l _ h _ ih p e
    simp only [toQ, toQp_eq] at e
    obtain ⟨ps, h1, rfl⟩ := map_ok e
    rw [ih.2]
    exact .dct h (ih.1 ps h1)
  · intro a dx c vs fs _ _ _ _ p e; simp [toQ] at e
  · intro a k _ p e; simp [toQ] at e
  · intro x p e; simp [toQ] at e
  · intro x p e; simp [toQ] at e
  · intro a t c ns vs ds os _ _ _ _ _ p e; simp [toQ] at e
  · intro ps e; simp [toQs] at e; subst e; exact .nil
  · intro v vs d ds _ _ ih1 ih2 ps e
    simp only [toQs] at e
    cases h1 : toQ d with
    | none => rw [h1] at e; cases e
    | some p =>
      rw [h1] at e
      obtain ⟨ps', h2, rfl⟩ := map_ok e
      exact .cons (ih1 p h1) (ih2 ps' h2)
  · exact ⟨fun ps e => by simp [toQs] at e; subst e; exact .nil, rfl⟩
  · intro k v vs d ds _ _ ih1 ih2
    refine ⟨fun ps e => ?_, by rw [List.map_cons, List.map_cons, ih2.2]⟩
    simp only [List.map_cons, toQs] at e
    cases h1 : toQ d with
    | none => rw [h1] at e; cases e
    | some p =>
      rw [h1] at e
      obtain ⟨ps', h2, rfl⟩ := map_ok e
      exact .cons (ih1 p h1) (ih2.1 ps' h2)
  · trivial
  · intros; trivial
theorem derefQ_all (n : Nat) (ih : ∀ (d : Dv) (v : V) (p : PyData), VR K L io H v d → toQ (deref n S d) = some p → Dq K H v p) : ∀ (l : List Dv) (vs : List V) (ps : List PyData), VRs K L io H vs l → toQs (l.map (deref n S)) = some ps → DqAll K H vs ps
  | [], vs, ps, r, e => by cases r; simp [toQs] at e; subst e; exact .nil
  | d :: l, vs, ps, r, e => by
    cases r with
    | cons h t =>
      simp only [toQs, List.map_cons] at e
      cases q : toQ (deref n S d) with
      | none => rw [q] at e; cases e
      | some p =>
        rw [q] at e
        obtain ⟨ps', q2, rfl⟩ := map_ok e
        exact .cons (ih d _ p h q) (derefQ_all n ih l _ ps' t q2)
theorem pair_vals : ∀ {kvs : List (Key × V)} {l : List (Key × Dv)}, PairR (VR K L io H) kvs l → VRs K L io H (kvs.map (·.2)) (l.map (·.2)) ∧ (l.map fun q => keyP q.1) = kvs.map fun q => keyP q.1
  | _, _, .nil => ⟨.nil, rfl⟩
  | _, _, .cons r t => by
    obtain ⟨h1, h2⟩ := pair_vals t
    exact ⟨.cons r.2 h1, by rw [List.map_cons, List.map_cons, h2, r.1]⟩
theorem derefQ_dic (n : Nat) (ih : ∀ (d : Dv) (v : V) (p : PyData), VR K L io H v d → toQ (deref n S d) = some p → Dq K H v p) {l : List (Key × Dv)} {kvs : List (Key × V)} {a : Addr} {p : PyData} (h : Rd H a (.dK kvs)) (t : PairR (VR K L io H) kvs l) (e : toQ (.dic (l.map fun q => (q.1, deref n S q.2))) = some p) : Dq K H (.ref a) p := by
  simp only [toQ, toQp_eq] at e
  obtain ⟨ps, h1, rfl⟩ := map_ok e
  obtain ⟨t1, t2⟩ := pair_vals t
  have e1 : (l.map fun q => (q.1, deref n S q.2)).map (·.2) = (l.map (·.2)).map (deref n S) := by simp [List.map_map, Function.comp_def]
  have e2 : ((l.map fun q => (q.1, deref n S q.2)).map fun q => keyP q.1) = kvs.map fun q => keyP q.1 := by rw [← t2]; simp [List.map_map, Function.comp_def]
  rw [e1] at h1
  rw [e2]
  exact .dct h (derefQ_all n ih _ _ ps t1 h1)
theorem derefQ (sr : SR K L io H S) : ∀ (n : Nat) (d : Dv) (v : V) (p : PyData), VR K L io H v d → toQ (deref n S d) = some p → Dq K H v p
  | 0, d, v, p, r, e => toQ_ok r p e
  | n + 1, .tup l, v, p, r, e => by
    obtain ⟨a, xs, rfl, s, t⟩ := r.tupS
    simp only [deref, toQ] at e
    obtain ⟨ps, q, rfl⟩ := map_ok e
    exact .tup s (derefQ_all n (derefQ sr n) l xs ps t q)
  | n + 1, .lst l, v, p, r, e => by
    simp only [deref, toQ] at e
    obtain ⟨ps, q, rfl⟩ := map_ok e
    cases r with
    | lst nl h t => exact .lst (SqL.of h) (derefQ_all n (derefQ sr n) l _ ps t q)
  | n + 1, .rol l, v, p, r, e => by
    simp only [deref, toQ] at e
    obtain ⟨ps, q, rfl⟩ := map_ok e
    cases r with
    | rol nl h t => exact .lst (.inl h) (derefQ_all n (derefQ sr n) l _ ps t q)
    | rolK h t => exact .lst (h H) (derefQ_all n (derefQ sr n) l _ ps t q)
  | n + 1, .dic l, v, p, r, e => by
    cases r with
    | dic nl h t => exact derefQ_dic n (derefQ sr n) h t.pair e
  | n + 1, .hdl k, v, p, r, e => by
    cases q0 : S[k]? with
    | none => simp [deref, q0, toQ] at e
    | some o =>
      cases r with
      | hdl hk =>
        cases o with
        | lst l =>
          simp only [deref, q0, toQ] at e
          obtain ⟨ps, q, rfl⟩ := map_ok e
          obtain ⟨xs, h, t⟩ := sr.obj k _ _ hk q0
          exact .lst (SqL.of h) (derefQ_all n (derefQ sr n) l xs ps t q)
        | dct l =>
          simp only [deref, q0] at e
          obtain ⟨kvs, h, t⟩ := sr.obj k _ _ hk q0
          exact derefQ_dic n (derefQ sr n) (.inl h) t e
        | ins c fs => simp [deref, q0, toQ] at e
        | ext => simp [deref, q0, toQ] at e
        | dcn => simp [deref, q0, toQ] at e
  | n + 1, .non, v, p, r, e => toQ_ok r p e
  | n + 1, .bl _, v, p, r, e => toQ_ok r p e
  | n + 1, .int _, v, p, r, e => toQ_ok r p e
  | n + 1, .str _, v, p, r, e => toQ_ok r p e
  | n + 1, .obj _ _, v, p, r, e => toQ_ok r p e
  | n + 1, .glo _, v, p, r, e => toQ_ok r p e
  | n + 1, .ty _, v, p, r, e => toQ_ok r p e
  | n + 1, .ext _ _ _ _, v, p, r, e => toQ_ok r p e
theorem resQ (sr : SR K L io H S) {v : V} {d : Dv} {p : PyData} (r : VX K L io H v d) (e : toQ (res S d) = some p) : Dq K H v p := by
  rcases r with r | ⟨a, o, rfl, rfl, np, ob⟩
  · exact derefQ sr 40 d v p r e
  · cases o with
    | lst l =>
      simp only [vwO, res, deref, toQ] at e
      obtain ⟨ps, q, rfl⟩ := map_ok e
      obtain ⟨xs, h, t⟩ := ob
      exact .lst (SqL.of h) (derefQ_all 39 (derefQ sr 39) l xs ps t q)
    | dct l =>
      obtain ⟨kvs, h, t⟩ := ob
      exact derefQ_dic 39 (derefQ sr 39) (.inl h) t e
    | ins c fs => simp [vwO, res, deref, toQ] at e
    | ext => simp [vwO, res, deref, toQ] at e
    | dcn => simp [vwO, res, deref, toQ] at e
end
def reprD (S : Sto) : List Dv → Option (Dv × Sto)
  | [d] => (toQ (res S d)).bind fun p => if p.showable && decide (p.depth ≤ 60) && decide (p.shown.length ≤ sizeLine) then some (.str p.shown, S) else none
  | _ => none
def rRepr (K : Kw) : List V → Hp → VK → Prop := fun xs H Q => ∃ v p, xs = [v] ∧ Dq K H v p ∧ p.showable = true ∧ p.depth ≤ 60 ∧ p.shown.length ≤ sizeLine ∧ Q (.str p.shown) H
theorem cas_repr {K : Kw} : CaS K (rRepr K) reprD := by
  intro L io H S xs l d S' Q sr rv e q
  cases rv with
  | nil => cases e
  | cons r t =>
    cases t with
    | cons r2 t2 => cases e
    | nil =>
      rename_i v dd
      simp only [reprD] at e
      cases h : toQ (res S dd) with
      | none => rw [h] at e; cases e
      | some p =>
        rw [h] at e
        simp only [Option.bind_some] at e
        split at e
        · rename_i hc
          simp only [Bool.and_eq_true, decide_eq_true_eq] at hc
          cases e
          exact ⟨v, p, rfl, resQ sr r h, hc.1.1, hc.1.2, hc.2, q _ H L io (Stp.refl ..) sr (.str _)⟩
        · cases e
theorem call_repr {X : Cx} {k : Nat} (hr : RoomG k X.A) (hs : SysB X.base) : CallR X (.builtin "repr") (rRepr X.kw) := by
  intro pins s σ H xs us Q I r h
  obtain ⟨v, p, rfl, hd, h1, h2, h3, q⟩ := h
  obtain ⟨u, rfl, ru⟩ := vals1 r
  cases hd with
  | non => cases ru; exact PySem.P.repr_of_none ⟨.str _, H, I.tok _, ⟨_, rfl⟩, q⟩
  | bl b => cases ru; exact PySem.P.repr_of_bool ⟨.str _, H, I.tok _, ⟨_, rfl⟩, q⟩
  | int i => obtain ⟨t, rfl⟩ := ru; exact PySem.P.repr_of_int (by simpa [PyData.showable] using h1) ⟨.str _, H, I.tok _, ⟨_, rfl⟩, q⟩
  | str x => obtain ⟨t, rfl⟩ := ru; exact PySem.P.repr_of_str ⟨.str _, H, I.tok _, ⟨_, rfl⟩, q⟩ h3
  | lst hl ha =>
    obtain ⟨as, z, nz⟩ := Dq.reads I hs (.lst hl ha) _ ru
    cases ru
    have hu := hr.r.un
    exact repr_of_reads' z h1 (fun _ => nz) hr.g (by omega) (fun _ _ e => e) (fun h' u tk hk => ⟨.str _, H, I.kept hk, ⟨_, rfl⟩, q⟩) h3
  | tup hl ha =>
    obtain ⟨as, z, nz⟩ := Dq.reads I hs (.tup hl ha) _ ru
    cases ru
    have hu := hr.r.un
    exact repr_of_reads' z h1 (fun _ => nz) hr.g (by omega) (fun _ _ e => e) (fun h' u tk hk => ⟨.str _, H, I.kept hk, ⟨_, rfl⟩, q⟩) h3
  | dct hl ha =>
    obtain ⟨as, z, nz⟩ := Dq.reads I hs (.dct hl ha) _ ru
    cases ru
    have hu := hr.r.un
    exact repr_of_reads' z h1 (fun _ => nz) hr.g (by omega) (fun _ _ e => e) (fun h' u tk hk => ⟨.str _, H, I.kept hk, ⟨_, rfl⟩, q⟩) h3
end DL
namespace DL
open PySem L2
def NewO (K : Kw) (H : Hp) (L' : Addr → Prop) (io' : List Addr) (H' : Hp) (v : V) (o : Ob) : Prop := ∃ p, v = .ref p ∧ H p = none ∧ L' p ∧ p ∉ io' ∧ ObR K L' io' H' p o
abbrev DN := Env → Sto → Res Ob
def FinN (K : Kw) (W : WX) (g : St) (L : Addr → Prop) (io : List Addr) (H : Hp) (Q : V → Hp → Prop) : Res Ob → Prop
  | .ok d S' => ∀ (v : V) (H' : Hp) (L' : Addr → Prop) (io' : List Addr), Stp L io H L' io' H' → SR K L' io' H' S' → NewO K H L' io' H' v d → Q v H'
  | .ex c fs S' => ∀ (x : Option Addr) (H' : Hp) (L' : Addr → Prop) (io' : List Addr), Stp L io H L' io' H' → SR K L' io' H' S' → ExR K L' io' H' x fs → W (.ref (He.ga K c)) x g H'
  | .no => False
def rdN (K : Kw) (W : WX) (f : DN) : TE := fun g H Q => ∃ (L0 : Addr → Prop) (io0 : List Addr) (H0 : Hp) (L : Addr → Prop) (io : List Addr) (e : Env) (S : Sto), FR K L0 io0 H0 L io H g e S ∧ FinN K W g L io H Q (f e S)
abbrev QN (X : Cx) (W : WX) (e : Expr) (f : DN) : Prop := PE X e (rdN X.kw W f)
def nL (f : DL) : DN := fun e S => bnd (f e S) fun l S' => .ok (.lst l) S'
def nD (f : DD) : DN := fun e S => bnd (f e S) fun l S' => .ok (.dct l) S'
theorem qn_f {X : Cx} {W : WX} {a : Expr} {f : DL} (h : QF X W a f) : QN X W a (nL f) := pe_imp h fun g H Q q => by
  obtain ⟨L0, io0, H0, L, io, e, S, fr, q⟩ := q
  refine ⟨L0, io0, H0, L, io, e, S, fr, ?_⟩
  unfold nL at q
  cases hf : f e S with
  | ok l S' => rw [hf] at q; exact fun v H' L' io' s sr ⟨p, xs, hv, hp, lp, np, h1, h2⟩ => q v H' L' io' s sr ⟨p, hv, hp, lp, np, xs, h1, h2⟩
  | ex c fs S' => rw [hf] at q; exact q
  | no => rw [hf] at q; exact q
/-- frozen at once -/
def eFrzN (f : DN) : DE := fun e S => bnd (f e S) fun o S' => .ok (frzO o) S'
/-- a handle at once -/
def eHdlN (f : DN) : DE := fun e S => bnd (f e S) fun o S' => .ok (.hdl S'.length) (S' ++ [o])
theorem FR.setN' {K : Kw} {L0 L L1 : Addr → Prop} {io0 io io1 : List Addr} {H0 H H1 : Hp} {g : St} {e : Env} {S S1 : Sto} (fr : FR K L0 io0 H0 L io H g e S) (s : Stp L io H L1 io1 H1) (sr : SR K L1 io1 H1 S1) {v : V} {o : Ob} (n : NewO K H L1 io1 H1 v o) (i : Nat) :
    FR K L0 io0 H0 L1 io1 H1 (g.set i (some v)) (e.set i (.own o)) S1 := by
  obtain ⟨p, rfl, hp, lp, np, ob⟩ := n
  refine (fr.step s sr).setS i (fun d h => by cases h) (fun l' h => ?_) fun q _ _ hq j hj v1 v2 hg => ?_
  · cases h; exact ⟨p, rfl, lp, np, fr.fresh0 hp, ob⟩
  · cases hq
    by_cases hn : e[j]? = none
    · have := List.getElem?_eq_none_iff.mp hn
      rw [← fr.len] at this
      rw [List.getElem?_eq_none_iff.mpr this] at hg
      cases hg
    · obtain ⟨o, ho, _⟩ := fr.ownAt v1 v2 hn hg
      rw [hp] at ho; cases ho
def sOwnN (i : Nat) (f : DN) : DS := sBind f fun e o S => .nx (e.set i (.own o)) S
section
variable {X : Cx} {W : WX} {pos : Pos} {a b c : Expr} {x y z : Str}
theorem qs_ownN (hN : X.N.Nodup) (i : Nat) {pos' : Pos} {f : DN} (h : QN X W a f) (hi : X.N[i]? = some x := by rfl) (hx : Loc X.env.scope x := by first | exact Or.inl rfl | exact Or.inr rfl) (hs : swapsWith a (some (.Name x pos')) pos.line X.env = pure false := by rfl) (hf : X.fn x = true ∨ X.env.scope.names.lookup x = some .local := by first | exact .inl rfl | exact .inr rfl) :
    QS X W (.Assign [.Name x pos'] a pos) (sOwnN i f) := ps_imp (ps_set hN hi hx h hs hf) fun D g H h => by
  obtain ⟨L0, io0, H0, L, io, e, S, fr, h⟩ := h
  refine ⟨L0, io0, H0, L, io, e, S, fr, ?_⟩
  unfold sOwnN sBind at h
  cases hf : f e S with
  | ok o S1 =>
    rw [hf] at h
    intro v H1 L1 io1 s1 sr1 r1
    exact h _ H1 L1 io1 (s1.stw fr.st.sub) (fr.setN' s1 sr1 r1 i)
  | ex c fs S1 =>
    rw [hf] at h
    exact fun x H' L' io' s sr r => h x g H' L' io' (s.stw fr.st.sub) (fr.step s sr) r
  | no => rw [hf] at h; exact h
abbrev DB := Env → Sto → Res (List Sl)
/-- the own ones stand apart -/
inductive SlsR (K : Kw) (L : Addr → Prop) (io : List Addr) (H : Hp) : Hp → List V → List Sl → Prop
  | nil {Hs : Hp} : SlsR K L io H Hs [] []
  | va {Hs : Hp} {v : V} {d : Dv} {vs : List V} {ss : List Sl} : VR K L io H v d → SlsR K L io H Hs vs ss → SlsR K L io H Hs (v :: vs) (.va d :: ss)
  | own {Hs : Hp} {p : Addr} {o : Ob} {H1 : Hp} {vs : List V} {ss : List Sl} : Hs p = none → L p → p ∉ io → ObR K L io H p o → H1 p ≠ none → (∀ q, H1 q = none → Hs q = none) → SlsR K L io H H1 vs ss → SlsR K L io H Hs (.ref p :: vs) (.own o :: ss)
def bNil : DB := fun _ S => .ok [] S
def bVa (f : DE) (fb : DB) : DB := fun e S => bnd (f e S) fun d S1 => bnd (fb e S1) fun l S2 => .ok (.va d :: l) S2
def bOwn (f : DN) (fb : DB) : DB := fun e S => bnd (f e S) fun o S1 => bnd (fb e S1) fun l S2 => .ok (.own o :: l) S2
theorem SlsR.weaken {K : Kw} {Hs Hs' : Hp} {L : Addr → Prop} {io : List Addr} {H : Hp} (hw : ∀ q, Hs q = none → Hs' q = none) : ∀ {vs : List V} {ss : List Sl}, SlsR K L io H Hs vs ss → SlsR K L io H Hs' vs ss
  | _, _, .nil => .nil
  | _, _, .va r t => .va r (t.weaken hw)
  | _, _, .own h1 h2 h3 h4 h5 h6 t => .own (hw _ h1) h2 h3 h4 h5 (fun q z => hw q (h6 q z)) t
/-- the slots are set, from the left -/
def setSs : List Nat → List Sl → Env → Env
  | i :: is, s :: ss, e => setSs is ss (e.set i s)
  | _, _, e => e
def sParB (is : List Nat) (fb : DB) : DS := sBind fb fun e ss S => if ss.length = is.length then .nx (setSs is ss e) S else .no
theorem SlsR.len {K : Kw} {L : Addr → Prop} {io : List Addr} {H : Hp} : ∀ {Hs : Hp} {vs : List V} {ss : List Sl}, SlsR K L io H Hs vs ss → vs.length = ss.length
  | _, _, _, .nil => rfl
  | _, _, _, .va _ t => by rw [List.length_cons, List.length_cons, t.len]
  | _, _, _, .own _ _ _ _ _ _ t => by rw [List.length_cons, List.length_cons, t.len]
def sSetO (i : Nat) (fi fv : DE) : DS := sBind fv fun e v S1 => match e[i]? with
  | some (.own (.lst l)) => sBind fi (fun e n S3 => match n with
    | .int n => match ixN l.length n with
      | some j => .nx (e.set i (.ow (l.set j v))) S3
      | none => .no
    | _ => .no) e S1
  | _ => .no
end
def listK (l : List Dv) (S : Sto) : Res (List Dv) := match l with
  | [d] => match asQ S d with
    | some l => .ok l S
    | none => .no
  | _ => .no
def fList (fa : DA) : DL := fun e S => bnd (fa e S) listK
theorem qf_list {X : Cx} {W : WX} {p pos : Pos} {a : Expr} {fa : DA} (hm : X.mg "list" = none) (ha : QXs X W [a] fa) (hg : Gl X "list" := by rfl) (he : starEach [a] X.env = (false, eval a X.env) :: starEach [] X.env := by rfl) : QF X W (.Call (.Name "list" p) [a] [] pos) (fList fa) :=
  pe_imp (pe_callTy call_list_of hg hm (by decide +kernel) ha (by decide) (by decide) he (by rfl)) fun g H Q q => by
  obtain ⟨L0, io0, H0, L, io, e, S, fr, q⟩ := q
  refine FinF.bind (R := VXs X.kw) (k := listK) fr q fun L1 io1 H1 S1 l vs s1 fr1 rvs q => ?_
  unfold listK at q
  split at q
  · rename_i d
    cases h : asQ S1 d with
    | none => rw [h] at q; exact q.elim
    | some m =>
      rw [h] at q
      cases rvs with
      | cons r t =>
        cases t
        obtain ⟨a, xs, rfl, hs, t⟩ := asQ_x fr1.st r h
        exact ⟨a, xs, rfl, hs, FinF.new q fr1.st t⟩
  · exact q.elim
def eAny (i : Nat) : DE := fun e S => match e[i]? with
  | some (.own o) => .ok (vwO o) S
  | some (.va d) => .ok d S
  | _ => .no
theorem qx_any {X : Cx} {W : WX} {pos : Pos} (i : Nat) {x : Str} (hN : X.N[i]? = some x := by rfl) (hv : Vis X.env.scope x := by first | exact Or.inl rfl | exact Or.inr (Or.inl rfl) | exact Or.inr (Or.inr rfl)) (hd : (x == ("__debug__" : Str)) = false := by decide)
    (hcd : (x == ("__classdict__" : Str)) = false := by decide) : QX X W (.Name x pos) (eAny i) := pe_imp (pe_var hN hv hd hcd) fun g H Q q => by
  obtain ⟨L0, io0, H0, L, io, e, S, fr, q⟩ := q
  cases h : e[i]? with
  | none => simp only [eAny, h] at q; exact q.elim
  | some sl =>
    cases sl with
    | own o =>
      simp only [eAny, h] at q
      obtain ⟨p, h1, h2, h3, h4, h5⟩ := fr.own i o h
      exact ⟨.ref p, h1, q _ H L io (Stp.refl ..) fr.st (.inr ⟨p, o, rfl, rfl, h3, h5⟩)⟩
    | va d =>
      simp only [eAny, h] at q
      obtain ⟨v, h1, h2⟩ := fr.va i d h
      exact ⟨v, h1, q _ H L io (Stp.refl ..) fr.st (.inl h2)⟩
    | no => simp only [eAny, h] at q; exact q.elim
/-- frozen from now on -/
def sFz (i : Nat) : DS := fun e S => match e[i]? with
  | some (.own o) => .nx (e.set i (.va (frzO o))) S
  | some (.va _) => .nx e S
  | _ => .no
end DL
namespace DL
open PySem L2
def prD : Dv → Option (Key × Dv)
  | .tup [k, v] => (keyD k).map fun k' => (k', v)
  | _ => none
def prsD : List Dv → Option (List (Key × Dv))
  | [] => some []
  | d :: l => (prD d).bind fun p => (prsD l).map fun r => p :: r
def dictK (l : List Dv) (S : Sto) : Res (List (Key × Dv)) := match l with
  | [d] => (match asL S d with
    | some m => (match prsD m with
      | some kv => .ok (mergeD [] kv) S
      | none => .no)
    | none => .no)
  | _ => .no
def dDict (fa : DA) : DD := fun e S => bnd (fa e S) dictK
theorem FinD.bind {α β : Type} {K : Kw} {W : WX} {R : (Addr → Prop) → List Addr → Hp → β → α → Prop} {f : Env → Sto → Res α} {k : α → Sto → Res (List (Key × Dv))} {g : St} {L0 L : Addr → Prop} {io0 io : List Addr} {H0 H : Hp} {e : Env} {S : Sto} {Q : V → Hp → Prop} {P : β → Hp → Prop}
    (fr : FR K L0 io0 H0 L io H g e S) (h : FinD K W g L io H Q (bnd (f e S) k))
    (n : ∀ (L1 : Addr → Prop) (io1 : List Addr) (H1 : Hp) (S1 : Sto) (a : α) (v : β), Stp L io H L1 io1 H1 → FR K L0 io0 H0 L1 io1 H1 g e S1 → R L1 io1 H1 v a → FinD K W g L1 io1 H1 Q (k a S1) → P v H1) : Rdg K W R f g H P := by
  refine ⟨L0, io0, H0, L, io, e, S, fr, ?_⟩
  cases hf : f e S with
  | ok a S1 =>
    rw [hf] at h
    intro v H1 L1 io1 s1 sr1 r1
    exact n L1 io1 H1 S1 a v s1 (fr.step s1 sr1) r1 (FinD.later (r := k a S1) h s1 fr.st.sub sr1)
  | ex c fs S1 => rw [hf] at h; exact h
  | no => rw [hf] at h; exact h
section
variable {X : Cx} {W : WX} {pos apos cpos p1 : Pos} {o : Expr} {fo : DE} {x name : Str} {id : String} {r : V → List V → Hp → VK → Prop} {h : List Dv → List Dv → Option (List Dv × Dv)}
theorem rd_nil0 {K : Kw} {g : St} {H : Hp} {Q : List V → Hp → Prop} (q : rda K W aNil g H Q) : Q [] H := by
  obtain ⟨L0, io0, H0, L, io, e, S, fr, q⟩ := q
  exact q [] H L io (Stp.refl ..) fr.st .nil
theorem tbm0 {K : Kw} {to : TE} (mono : ∀ g H (Q Q' : VK), (∀ v H, Q v H → Q' v H) → to g H Q → to g H Q') {g : St} {H : Hp} {Q : VK} (q : tBM K "list" r to (rda K W aNil) g H Q) : tBM0 K "list" r to g H Q :=
  mono g H _ _ (fun x H1 ⟨h1, h2⟩ => ⟨h1, rd_nil0 h2⟩) q
theorem mono_rd {K : Kw} {f : DE} (g : St) (H : Hp) (Q Q' : VK) (h : ∀ v H, Q v H → Q' v H) (q : rd K W f g H Q) : rd K W f g H Q' := by
  obtain ⟨L0, io0, H0, L, io, e, S, fr, q⟩ := q
  refine ⟨L0, io0, H0, L, io, e, S, fr, ?_⟩
  cases hf : f e S with
  | ok d S' => rw [hf] at q; exact fun v H' L' io' s sr r => h _ _ (q v H' L' io' s sr r)
  | ex c fs S' => rw [hf] at q; exact q
  | no => rw [hf] at q; exact q
theorem qe_hdlM0 (slot : Slot "list" name id) (hty : typeOf (.builtin id) = pure (.type "method_descriptor")) (hm : MtR X id r) (hs : OwnS X.kw r h) (ho : QE X W o fo)
    (hbase : attributeBase o name X.env (eval o X.env) = eval o X.env := by rfl) (hline : (apos.endLine == cpos.line) = true := by rfl) :
    QE X W (.Call (.Attribute o name apos) [] [] cpos) (eHdlM h fo aNil) := pe_imp (pe_bm0 PySem.F.plainAttrs_list slot hty hm ho hbase hline) fun g H Q q => tbm0 (W := W) mono_rd (rd_hdlM hs q)
end
end DL
namespace TX
open PySem PySem.Spec PyProof.Rows L2
def keyS (e : Int × Value) : Str := match e.2 with | .str k _ => k | _ => Str.empty
def GoodS (P : Program) (w : World) (e : Int × Value) : Prop := ∃ k tk, e.2 = Value.str k tk ∧ e.1 = (strKind P w).hash k
/-- the set of texts at a: S its members, n their number -/
def TxR (P : Program) (w : World) (h : Heap) (a : Addr) (S : Str → Bool) (n : Nat) : Prop :=
  ∃ o es ep t, h.get? a = some o ∧ o.ExactSet ∧ o.data = .set es ep t ∧ (∀ e ∈ es.toList, GoodS P w e) ∧ (es.toList.map keyS).Nodup ∧ (∀ k, S k = true ↔ k ∈ es.toList.map keyS) ∧
    es.size < scanBound ∧ t.fits es.size = true ∧ es.size = n ∧ Ris t.place.toList ∧ (w.params.followText "set-order" = true ∨ t.led = true)
section
variable {P : Program} {w : World} {h h' : Heap} {a : Addr} {S : Str → Bool} {n : Nat}
theorem TxR.at (R : TxR P w h a S n) (k : ∀ o, h.get? a = some o → h'.get? a = some o) : TxR P w h' a S n := by
  obtain ⟨o, es, ep, t, ho, r⟩ := R
  exact ⟨o, es, ep, t, k o ho, r⟩
theorem TxR.lt (R : TxR P w h a S n) : a < h.objs.size := by
  obtain ⟨o, es, ep, t, ho, r⟩ := R
  exact Heap.lt_size ho
end
end TX
namespace DL
open PySem L2
section
variable {α β : Type} (S S' : Sto) (e : Env) (d d1 d2 d3 : Dv) (l l' : List Dv) (f f1 f2 f3 fo fi fv : DE) (t t1 t2 : DT) (fa : DA) (fl : DL) (s s1 s2 : DS) (h2 : Sto → Dv → Dv → Option (Dv × Sto)) (hc : Sto → List Dv → Option (Dv × Sto)) (g : DF) (i j k : Nat) (b : Bool) (c : Str) (fs : List (Str × Dv)) (x : Option (Dv × Sto))
def kVar (S : Sto) : Option Sl → Res Dv
  | some (.va d) => .ok d S
  | _ => .no
@[simp] theorem ev_var : eVar i e S = kVar S (e[i]?) := rfl
@[simp] theorem kVar_va : kVar S (some (.va d)) = .ok d S := rfl
@[simp] theorem ev_c : eC d e S = .ok d S := rfl
@[simp] theorem ofO_none : (ofO none : Res α) = .no := rfl
@[simp] theorem bnd_no (k : α → Sto → Res β) : bnd .no k = .no := rfl
def kB1 (h : Sto → Dv → Dv → Option (Dv × Sto)) (f2 : DE) (e : Env) (a : Dv) (S : Sto) : Res Dv := bnd (f2 e S) fun b S2 => ofO (h S2 a b)
def kB2 (h : Sto → Dv → Dv → Option (Dv × Sto)) (a b : Dv) (S : Sto) : Res Dv := ofO (h S a b)
@[simp] theorem ev_bin : eBin h2 f1 f2 e S = bnd (f1 e S) (kB1 h2 f2 e) := rfl
@[simp] theorem ev_b1 : kB1 h2 f2 e d S = bnd (f2 e S) (kB2 h2 d) := rfl
@[simp] theorem ev_b2 : kB2 h2 d1 d2 S = ofO (h2 S d1 d2) := rfl
@[simp] theorem ev_tval : tVal f e S = bnd (f e S) blD := rfl
@[simp] theorem blD_bl : blD (.bl b) S = .ok b S := rfl
@[simp] theorem ev_ttru : tTru f e S = bnd (f e S) truR := rfl
def kTru (S : Sto) : Option Bool → Res Bool
  | some b => .ok b S
  | none => .no
@[simp] theorem ev_truR : truR d S = kTru S (truD S d) := by unfold truR; cases truD S d <;> rfl
@[simp] theorem kTru_some : kTru S (some b) = .ok b S := rfl
@[simp] theorem tru_bl : truD S (.bl b) = some b := rfl
@[simp] theorem tru_non : truD S .non = some false := rfl
@[simp] theorem tru_int (n : Int) : truD S (.int n) = some (n != 0) := rfl
@[simp] theorem tru_tup : truD S (.tup l) = some (!l.isEmpty) := rfl
@[simp] theorem tru_lst : truD S (.lst l) = some (!l.isEmpty) := rfl
@[simp] theorem tru_rol : truD S (.rol l) = some (!l.isEmpty) := rfl
def kAnd (t2 : DT) (e : Env) (b : Bool) (S : Sto) : Res Bool := if b then t2 e S else .ok false S
def kOr (t2 : DT) (e : Env) (b : Bool) (S : Sto) : Res Bool := if b then .ok true S else t2 e S
def kNot (b : Bool) (S : Sto) : Res Bool := .ok (!b) S
@[simp] theorem ev_tand : tAnd' t1 t2 e S = bnd (t1 e S) (kAnd t2 e) := rfl
@[simp] theorem ev_tor : tOr' t1 t2 e S = bnd (t1 e S) (kOr t2 e) := rfl
@[simp] theorem ev_tnot : tNot' t1 e S = bnd (t1 e S) kNot := rfl
@[simp] theorem kAnd_t : kAnd t2 e true S = t2 e S := rfl
@[simp] theorem kAnd_f : kAnd t2 e false S = .ok false S := rfl
@[simp] theorem kOr_t : kOr t2 e true S = .ok true S := rfl
@[simp] theorem kOr_f : kOr t2 e false S = t2 e S := rfl
@[simp] theorem kNot_v : kNot b S = .ok (!b) S := rfl
def kIf (f1 f2 : DE) (e : Env) (b : Bool) (S : Sto) : Res Dv := if b then f1 e S else f2 e S
@[simp] theorem ev_if : eIf t f1 f2 e S = bnd (t e S) (kIf f1 f2 e) := rfl
@[simp] theorem kIf_t : kIf f1 f2 e true S = f1 e S := rfl
@[simp] theorem kIf_f : kIf f1 f2 e false S = f2 e S := rfl
def kEAnd (f2 : DE) (e : Env) (a : Dv) (S : Sto) : Res Dv := bnd (truR a S) fun k S2 => if k then f2 e S2 else .ok a S2
def kEOr (f2 : DE) (e : Env) (a : Dv) (S : Sto) : Res Dv := bnd (truR a S) fun k S2 => if k then .ok a S2 else f2 e S2
def kENot (a : Dv) (S : Sto) : Res Dv := bnd (truR a S) fun k S2 => .ok (.bl (!k)) S2
def kEAnd2 (f2 : DE) (e : Env) (a : Dv) (k : Bool) (S : Sto) : Res Dv := if k then f2 e S else .ok a S
def kEOr2 (f2 : DE) (e : Env) (a : Dv) (k : Bool) (S : Sto) : Res Dv := if k then .ok a S else f2 e S
def kENot2 (k : Bool) (S : Sto) : Res Dv := .ok (.bl (!k)) S
@[simp] theorem ev_eand : eAnd f1 f2 e S = bnd (f1 e S) (kEAnd f2 e) := rfl
@[simp] theorem ev_eor : eOr f1 f2 e S = bnd (f1 e S) (kEOr f2 e) := rfl
@[simp] theorem ev_enot : eNot f1 e S = bnd (f1 e S) kENot := rfl
@[simp] theorem ev_keand : kEAnd f2 e d S = bnd (kTru S (truD S d)) (kEAnd2 f2 e d) := by unfold kEAnd; rw [ev_truR]; rfl
@[simp] theorem ev_keor : kEOr f2 e d S = bnd (kTru S (truD S d)) (kEOr2 f2 e d) := by unfold kEOr; rw [ev_truR]; rfl
@[simp] theorem ev_kenot : kENot d S = bnd (kTru S (truD S d)) kENot2 := by unfold kENot; rw [ev_truR]; rfl
@[simp] theorem kEAnd2_t : kEAnd2 f2 e d true S = f2 e S := rfl
@[simp] theorem kEAnd2_f : kEAnd2 f2 e d false S = .ok d S := rfl
@[simp] theorem kEOr2_t : kEOr2 f2 e d true S = .ok d S := rfl
@[simp] theorem kEOr2_f : kEOr2 f2 e d false S = f2 e S := rfl
@[simp] theorem kENot2_v : kENot2 b S = .ok (.bl (!b)) S := rfl
@[simp] theorem ev_anil : aNil e S = .ok [] S := rfl
def kA1 (fa : DA) (e : Env) (d : Dv) (S : Sto) : Res (List Dv) := bnd (fa e S) fun l S2 => .ok (d :: l) S2
def kA2 (d : Dv) (l : List Dv) (S : Sto) : Res (List Dv) := .ok (d :: l) S
@[simp] theorem ev_acons : aCons f fa e S = bnd (f e S) (kA1 fa e) := rfl
@[simp] theorem ev_a1 : kA1 fa e d S = bnd (fa e S) (kA2 d) := rfl
@[simp] theorem ev_a2 : kA2 d l S = .ok (d :: l) S := rfl
@[simp] theorem ev_tup : eTup fa e S = bnd (fa e S) tupR := rfl
@[simp] theorem ev_lst : eLst fa e S = bnd (fa e S) lstR := rfl
theorem line_le (n : Nat) (h : n ≤ 100000) : n ≤ sizeLine := Nat.le_trans h (by decide)
theorem tupR_ok (h : l.length ≤ sizeLine) : tupR l S = .ok (.tup l) S := if_pos h
@[simp] theorem tupR0 : tupR [] S = .ok (.tup []) S := tupR_ok _ _ (line_le _ (by decide))
@[simp] theorem tupR1 (a1 : Dv) : tupR [a1] S = .ok (.tup [a1]) S := tupR_ok _ _ (line_le _ (by simp))
@[simp] theorem tupR2 (a1 a2 : Dv) : tupR [a1, a2] S = .ok (.tup [a1, a2]) S := tupR_ok _ _ (line_le _ (by simp))
@[simp] theorem tupR3 (a1 a2 a3 : Dv) : tupR [a1, a2, a3] S = .ok (.tup [a1, a2, a3]) S := tupR_ok _ _ (line_le _ (by simp))
@[simp] theorem tupR4 (a1 a2 a3 a4 : Dv) : tupR [a1, a2, a3, a4] S = .ok (.tup [a1, a2, a3, a4]) S := tupR_ok _ _ (line_le _ (by simp))
@[simp] theorem tupR5 (a1 a2 a3 a4 a5 : Dv) : tupR [a1, a2, a3, a4, a5] S = .ok (.tup [a1, a2, a3, a4, a5]) S := tupR_ok _ _ (line_le _ (by simp))
@[simp] theorem tupR6 (a1 a2 a3 a4 a5 a6 : Dv) : tupR [a1, a2, a3, a4, a5, a6] S = .ok (.tup [a1, a2, a3, a4, a5, a6]) S := tupR_ok _ _ (line_le _ (by simp))
def kCB (h : Sto → List Dv → Option (Dv × Sto)) (l : List Dv) (S : Sto) : Res Dv := ofO (h S l)
@[simp] theorem ev_cb : eCB hc fa e S = bnd (fa e S) (kCB hc) := rfl
@[simp] theorem ev_kcb : kCB hc l S = ofO (hc S l) := rfl
def kCall (g : DF) (l : List Dv) (S : Sto) : Res Dv := g S l
@[simp] theorem ev_call : eCall g fa e S = bnd (fa e S) (kCall g) := rfl
@[simp] theorem ev_kcall : kCall g l S = g S l := rfl
def kFrz (l : List Dv) (S : Sto) : Res Dv := .ok (.lst l) S
@[simp] theorem ev_frz : eFrz fl e S = bnd (fl e S) kFrz := rfl
@[simp] theorem ev_kfrz : kFrz l S = .ok (.lst l) S := rfl
def kLst (l : List Dv) (S : Sto) : Res (List Dv) := if l.length ≤ sizeLine then .ok l S else .no
@[simp] theorem ev_flst : fLst fa e S = bnd (fa e S) kLst := rfl
theorem kLst_ok (h : l.length ≤ sizeLine) : kLst l S = .ok l S := if_pos h
@[simp] theorem kLst0 : kLst [] S = .ok [] S := kLst_ok _ _ (line_le _ (by decide))
@[simp] theorem kLst1 (a1 : Dv) : kLst [a1] S = .ok [a1] S := kLst_ok _ _ (line_le _ (by simp))
@[simp] theorem kLst2 (a1 a2 : Dv) : kLst [a1, a2] S = .ok [a1, a2] S := kLst_ok _ _ (line_le _ (by simp))
@[simp] theorem kLst3 (a1 a2 a3 : Dv) : kLst [a1, a2, a3] S = .ok [a1, a2, a3] S := kLst_ok _ _ (line_le _ (by simp))
@[simp] theorem kLst4 (a1 a2 a3 a4 : Dv) : kLst [a1, a2, a3, a4] S = .ok [a1, a2, a3, a4] S := kLst_ok _ _ (line_le _ (by simp))
def kNew (l : List Dv) (S : Sto) : Res Dv := .ok (.hdl S.length) (S ++ [.lst l])
@[simp] theorem ev_new : eNew fl e S = bnd (fl e S) kNew := rfl
@[simp] theorem ev_knew : kNew l S = .ok (.hdl S.length) (S ++ [.lst l]) := rfl
@[simp] theorem ev_isq : iSq f e S = bnd (f e S) seqR := rfl
@[simp] theorem seqR_tup : seqR (.tup l) S = .ok l S := rfl
@[simp] theorem seqR_lst : seqR (.lst l) S = .ok l S := rfl
@[simp] theorem seqR_rol : seqR (.rol l) S = .ok l S := rfl
@[simp] theorem ev_rng1 : iRng1' fa e S = bnd (fa e S) rngR1 := rfl
@[simp] theorem ev_rng2 : iRng2' fa e S = bnd (fa e S) rngR2 := rfl
theorem rngR1_ok (n : Int) (h : 0 ≤ n ∧ n < 1000000000) : rngR1 [.int n] S = .ok (rngD 0 n.toNat) S := if_pos ⟨by omega, by omega⟩
/-- comprehensions -/
def kLc (gd : DG) (tt : DT) (te : DE) (vs : List Nat) (e : Env) (ds : List Dv) (S : Sto) : Res (List Dv) := match lcR gd tt te (wipeE e vs) ds S with
  | .ok l S2 => if l.length ≤ sizeLine then .ok l S2 else .no
  | _ => .no
def kLcEnd : Res (List Dv) → Res (List Dv)
  | .ok l S2 => if l.length ≤ sizeLine then .ok l S2 else .no
  | _ => .no
@[simp] theorem ev_fLc (gd : DG) (tt : DT) (te : DE) (vs : List Nat) : fLc fl gd tt te vs e S = bnd (fl e S) (kLc gd tt te vs e) := rfl
@[simp] theorem ev_kLc (gd : DG) (tt : DT) (te : DE) (vs : List Nat) : kLc gd tt te vs e l S = kLcEnd (lcR gd tt te (wipeE e vs) l S) := by unfold kLc kLcEnd; rfl
theorem kLcEnd_ok (h : l.length ≤ sizeLine) : kLcEnd (.ok l S) = .ok l S := if_pos h
@[simp] theorem wipeE_nil : wipeE e [] = e := rfl
@[simp] theorem wipeE_cons (v : Nat) (vs : List Nat) : wipeE e (v :: vs) = (wipeE e vs).set v .no := rfl
@[simp] theorem ev_gN : gN i d e = some (e.set i (.va d)) := rfl
def kGs (gs : DGs) (r : List Dv) : Option Env → Option Env
  | some e => gs r e
  | none => none
@[simp] theorem ev_gT (gs : DGs) : gT gs (.tup l) e = gs l e := rfl
@[simp] theorem ev_gsNil : gsNil [] e = some e := rfl
@[simp] theorem ev_gsCons (gd : DG) (gs : DGs) : gsCons gd gs (d :: l) e = kGs gs l (gd d e) := by show (gd d e).bind (fun e' => gs l e') = _; cases gd d e <;> rfl
@[simp] theorem kGs_some (gs : DGs) : kGs gs l (some e) = gs l e := rfl
/-- statements -/
@[simp] theorem ev_snil : sNil e S = .nx e S := rfl
def kSeq (s2 : DS) : Out → Out
  | .nx e S => s2 e S
  | o => o
@[simp] theorem ev_seq : sSeq s1 s2 e S = kSeq s2 (s1 e S) := by unfold sSeq kSeq; cases s1 e S <;> rfl
@[simp] theorem kSeq_nx : kSeq s2 (.nx e S) = s2 e S := rfl
@[simp] theorem kSeq_rt : kSeq s2 (.rt d S) = .rt d S := rfl
@[simp] theorem kSeq_bk : kSeq s2 (.bk e S) = .bk e S := rfl
@[simp] theorem kSeq_ct : kSeq s2 (.ct e S) = .ct e S := rfl
@[simp] theorem kSeq_ex : kSeq s2 (.ex c fs e S) = .ex c fs e S := rfl
def kS {α : Type} (k : Env → α → Sto → Out) (e : Env) : Res α → Out
  | .ok a S => k e a S
  | .ex c fs S => .ex c fs e S
  | .no => .no
theorem ev_sbind (f : Env → Sto → Res α) (k : Env → α → Sto → Out) : sBind f k e S = kS k e (f e S) := by unfold sBind kS; cases f e S <;> rfl
@[simp] theorem kS_ok (k : Env → α → Sto → Out) (a : α) : kS k e (.ok a S) = k e a S := rfl
@[simp] theorem kS_ex (k : Env → α → Sto → Out) : kS k e (.ex c fs S) = .ex c fs e S := rfl
def qRet (e : Env) (d : Dv) (S : Sto) : Out := .rt d S
@[simp] theorem ev_ret : sRet f e S = kS qRet e (f e S) := ev_sbind ..
@[simp] theorem ev_qret : qRet e d S = .rt d S := rfl
def qExpr (e : Env) (d : Dv) (S : Sto) : Out := .nx e S
@[simp] theorem ev_expr : sExpr f e S = kS qExpr e (f e S) := ev_sbind ..
@[simp] theorem ev_qexpr : qExpr e d S = .nx e S := rfl
def qIf (s1 s2 : DS) (e : Env) (b : Bool) (S : Sto) : Out := if b then s1 e S else s2 e S
@[simp] theorem ev_sif : sIf t s1 s2 e S = kS (qIf s1 s2) e (t e S) := ev_sbind ..
@[simp] theorem qIf_t : qIf s1 s2 e true S = s1 e S := rfl
@[simp] theorem qIf_f : qIf s1 s2 e false S = s2 e S := rfl
def qAsg (i : Nat) (e : Env) (d : Dv) (S : Sto) : Out := .nx (e.set i (.va d)) S
@[simp] theorem ev_asg : sAsg i f e S = kS (qAsg i) e (f e S) := ev_sbind ..
@[simp] theorem ev_qasg : qAsg i e d S = .nx (e.set i (.va d)) S := rfl
def kAsgG (S : Sto) : Option Env → Out
  | some e' => .nx e' S
  | none => .no
def qAsgG (gd : DG) (e : Env) (d : Dv) (S : Sto) : Out := kAsgG S (gd d e)
@[simp] theorem ev_asgG (gd : DG) : sAsgG gd f e S = kS (qAsgG gd) e (f e S) := by
  unfold sAsgG; rw [ev_sbind]; congr 1
@[simp] theorem ev_qasgG (gd : DG) : qAsgG gd e d S = kAsgG S (gd d e) := rfl
@[simp] theorem kAsgG_some : kAsgG S (some e) = .nx e S := rfl
def qPar (i j : Nat) (e : Env) (l : List Dv) (S : Sto) : Out := match l with
  | [d1, d2] => .nx ((e.set i (.va d1)).set j (.va d2)) S
  | _ => .no
@[simp] theorem ev_par : sPar i j fa e S = kS (qPar i j) e (fa e S) := ev_sbind ..
@[simp] theorem ev_qpar : qPar i j e [d1, d2] S = .nx ((e.set i (.va d1)).set j (.va d2)) S := rfl
def qPar3 (i j k : Nat) (e : Env) (l : List Dv) (S : Sto) : Out := match l with
  | [d1, d2, d3] => .nx (((e.set i (.va d1)).set j (.va d2)).set k (.va d3)) S
  | _ => .no
@[simp] theorem ev_par3 : sPar3 i j k fa e S = kS (qPar3 i j k) e (fa e S) := ev_sbind ..
@[simp] theorem ev_qpar3 : qPar3 i j k e [d1, d2, d3] S = .nx (((e.set i (.va d1)).set j (.va d2)).set k (.va d3)) S := rfl
def qOwn (i : Nat) (e : Env) (l : List Dv) (S : Sto) : Out := .nx (e.set i (.ow l)) S
@[simp] theorem ev_own : sOwn i fl e S = kS (qOwn i) e (fl e S) := ev_sbind ..
@[simp] theorem ev_qown : qOwn i e l S = .nx (e.set i (.ow l)) S := rfl
def qNew (i : Nat) (e : Env) (l : List Dv) (S : Sto) : Out := .nx (e.set i (.va (.hdl S.length))) (S ++ [.lst l])
@[simp] theorem ev_snew : sNew i fl e S = kS (qNew i) e (fl e S) := ev_sbind ..
@[simp] theorem ev_qnew : qNew i e l S = .nx (e.set i (.va (.hdl S.length))) (S ++ [.lst l]) := rfl
def kFz (i : Nat) (e : Env) (S : Sto) : Option Sl → Out
  | some (.own o) => .nx (e.set i (.va (frzO o))) S
  | _ => .no
@[simp] theorem ev_sfrz : sFrz i e S = kFz i e S (e[i]?) := by unfold sFrz kFz; cases e[i]? with
  | none => rfl
  | some s => cases s <;> rfl
@[simp] theorem kFz_ow : kFz i e S (some (.ow l)) = .nx (e.set i (.va (.lst l))) S := rfl
@[simp] theorem kFz_od (m : List (Key × Dv)) : kFz i e S (some (.od m)) = .nx (e.set i (.va (.dic m))) S := rfl
@[simp] theorem kFz_oi : kFz i e S (some (.oi c fs)) = .nx (e.set i (.va (.obj c fs))) S := rfl
def qFor (gd : DG) (s : DS) (e : Env) (l : List Dv) (S : Sto) : Out := forR gd s l e S
@[simp] theorem ev_for (gd : DG) : sFor fl gd s e S = kS (qFor gd s) e (fl e S) := ev_sbind ..
@[simp] theorem ev_qfor (gd : DG) : qFor gd s e l S = forR gd s l e S := rfl
def qOwnM (h : List Dv → List Dv → Option (List Dv × Dv)) (i : Nat) (l : List Dv) (e : Env) (as : List Dv) (S : Sto) : Out := match h l as with
  | some (l', _) => .nx (e.set i (.ow l')) S
  | none => .no
def kOwnM (h : List Dv → List Dv → Option (List Dv × Dv)) (i : Nat) (fa : DA) (e : Env) (S : Sto) : Option Sl → Out
  | some (.own (.lst l)) => kS (qOwnM h i l) e (fa e S)
  | _ => .no
@[simp] theorem ev_ownM (h : List Dv → List Dv → Option (List Dv × Dv)) : sOwnM h i fa e S = kOwnM h i fa e S (e[i]?) := by
  unfold sOwnM kOwnM
  rcases e[i]? with _ | (_ | _ | (l | _ | _ | _ | _)) <;> first | rfl | exact ev_sbind ..
@[simp] theorem kOwnM_ow (h : List Dv → List Dv → Option (List Dv × Dv)) : kOwnM h i fa e S (some (.ow l)) = kS (qOwnM h i l) e (fa e S) := rfl
@[simp] theorem qOwnM_app (h : l.length < sizeLine) : qOwnM appD i l e [d] S = .nx (e.set i (.ow (l ++ [d]))) S := by unfold qOwnM appD; simp only [if_pos h]
/-- handles' lists -/
def kSet (e : Env) : Option Sto → Out
  | some S => .nx e S
  | none => .no
def qSet1 (fo fi : DE) (e : Env) (v : Dv) (S : Sto) : Out := sBind fo (fun e o S2 => sBind fi (fun e i S3 => match setD S3 o i v with
  | some S4 => .nx e S4
  | none => .no) e S2) e S
def qSet2 (fi : DE) (v : Dv) (e : Env) (o : Dv) (S : Sto) : Out := sBind fi (fun e i S3 => match setD S3 o i v with
  | some S4 => .nx e S4
  | none => .no) e S
def qSet3 (v o : Dv) (e : Env) (i : Dv) (S : Sto) : Out := kSet e (setD S o i v)
@[simp] theorem ev_setI : sSetI fo fi fv e S = kS (qSet1 fo fi) e (fv e S) := ev_sbind ..
@[simp] theorem ev_qset1 : qSet1 fo fi e d S = kS (qSet2 fi d) e (fo e S) := ev_sbind ..
@[simp] theorem ev_qset2 : qSet2 fi d e d1 S = kS (qSet3 d d1) e (fi e S) := by
  unfold qSet2; rw [ev_sbind]; congr 1
@[simp] theorem ev_qset3 : qSet3 d d1 e d2 S = kSet e (setD S d1 d2 d) := rfl
@[simp] theorem kSet_some : kSet e (some S) = .nx e S := rfl
def kSetH (S : Sto) (k : Nat) (n : Int) (v : Dv) : Option Ob → Option Sto
  | some (.lst l) => match ixN l.length n with
    | some j => some (S.set k (.lst (l.set j v)))
    | none => none
  | _ => none
@[simp] theorem ev_setD (n : Int) : setD S (.hdl k) (.int n) d = kSetH S k n d (S[k]?) := by
  simp only [setD]; unfold kSetH; generalize S[k]? = z; cases z with
  | none => rfl
  | some o => cases o <;> rfl
def kSetJ (S : Sto) (k : Nat) (l : List Dv) (v : Dv) : Option Nat → Option Sto
  | some j => some (S.set k (.lst (l.set j v)))
  | none => none
@[simp] theorem kSetH_lst (n : Int) : kSetH S k n d (some (.lst l)) = kSetJ S k l d (ixN l.length n) := by simp only [kSetH]; generalize ixN l.length n = z; cases z <;> rfl
@[simp] theorem kSetJ_some : kSetJ S k l d (some j) = some (S.set k (.lst (l.set j d))) := rfl
def qAug1 (op : Dv → Dv → Option Dv) (fi fv : DE) (e : Env) (o : Dv) (S : Sto) : Out := sBind fi (fun e i S2 => match ixL S2 o i with
  | some x => sBind fv (fun e y S3 => match op x y with
    | some z => (match setD S3 o i z with
      | some S4 => .nx e S4
      | none => .no)
    | none => .no) e S2
  | none => .no) e S
def kAug2 (op : Dv → Dv → Option Dv) (fv : DE) (o i : Dv) (e : Env) (S : Sto) : Option Dv → Out
  | some x => sBind fv (fun e y S3 => match op x y with
    | some z => (match setD S3 o i z with
      | some S4 => .nx e S4
      | none => .no)
    | none => .no) e S
  | none => .no
def qAug2 (op : Dv → Dv → Option Dv) (fv : DE) (o : Dv) (e : Env) (i : Dv) (S : Sto) : Out := kAug2 op fv o i e S (ixL S o i)
def kAug4 (o i : Dv) (e : Env) (S : Sto) : Option Dv → Out
  | some z => kSet e (setD S o i z)
  | none => .no
def qAug3 (op : Dv → Dv → Option Dv) (o i x : Dv) (e : Env) (y : Dv) (S : Sto) : Out := kAug4 o i e S (op x y)
@[simp] theorem ev_augI (op : Dv → Dv → Option Dv) : sAugI op fo fi fv e S = kS (qAug1 op fi fv) e (fo e S) := ev_sbind ..
@[simp] theorem ev_qaug1 (op : Dv → Dv → Option Dv) : qAug1 op fi fv e d S = kS (qAug2 op fv d) e (fi e S) := by
  unfold qAug1; rw [ev_sbind]; congr 1
@[simp] theorem ev_qaug2 (op : Dv → Dv → Option Dv) : qAug2 op fv d e d1 S = kAug2 op fv d d1 e S (ixL S d d1) := rfl
@[simp] theorem ev_kaug2 (op : Dv → Dv → Option Dv) : kAug2 op fv d d1 e S (some d2) = kS (qAug3 op d d1 d2) e (fv e S) := by
  unfold kAug2
  simp only
  rw [ev_sbind]; congr 1
@[simp] theorem ev_qaug3 (op : Dv → Dv → Option Dv) : qAug3 op d d1 d2 e d3 S = kAug4 d d1 e S (op d2 d3) := rfl
@[simp] theorem kAug4_some : kAug4 d d1 e S (some d2) = kSet e (setD S d d1 d2) := rfl
def kIxL (i : Int) : Option Ob → Option Dv
  | some (.lst l) => atI l i
  | _ => none
@[simp] theorem ixL_hdl (n : Int) : ixL S (.hdl k) (.int n) = kIxL n (S[k]?) := by
  simp only [ixL, asL]; unfold kIxL; generalize S[k]? = z; cases z with
  | none => rfl
  | some o => cases o <;> rfl
@[simp] theorem kIxL_lst (n : Int) : kIxL n (some (.lst l)) = atI l n := rfl
def qAug (op : Dv → Dv → Option Dv) (n : Nat) (x : Dv) (e : Env) (y : Dv) (S : Sto) : Out := match op x y with
  | some z => .nx (e.set n (.va z)) S
  | none => .no
def kAug (op : Dv → Dv → Option Dv) (n : Nat) (fv : DE) (e : Env) (S : Sto) : Option Sl → Out
  | some (.va x) => kS (qAug op n x) e (fv e S)
  | _ => .no
@[simp] theorem ev_aug (op : Dv → Dv → Option Dv) (n : Nat) : sAug op n fv e S = kAug op n fv e S (e[n]?) := by
  unfold sAug kAug
  cases e[n]? with
  | none => rfl
  | some s => cases s <;> first | rfl | exact ev_sbind ..
@[simp] theorem kAug_va (op : Dv → Dv → Option Dv) (n : Nat) : kAug op n fv e S (some (.va d)) = kS (qAug op n d) e (fv e S) := rfl
@[simp] theorem qAug_add (n : Nat) (p q : Int) : qAug addI n (.int p) e (.int q) S = .nx (e.set n (.va (.int (p + q)))) S := rfl
@[simp] theorem qAug_sub (n : Nat) (p q : Int) : qAug subI n (.int p) e (.int q) S = .nx (e.set n (.va (.int (p - q)))) S := rfl
@[simp] theorem addI_int (p q : Int) : addI (.int p) (.int q) = some (.int (p + q)) := rfl
@[simp] theorem subI_int (p q : Int) : subI (.int p) (.int q) = some (.int (p - q)) := rfl
/-- operators by data -/
@[simp] theorem op_sub_i (p q : Int) : pu2 subD S (.int p) (.int q) = some (.int (p - q), S) := rfl
theorem op_mul_i (p q : Int) (h : (-(2 ^ 64) < p ∧ p < 2 ^ 64) ∨ (-(2 ^ 64) < q ∧ q < 2 ^ 64)) : pu2 mulD S (.int p) (.int q) = some (.int (p * q), S) := by
  show (if _ then some (Dv.int (p * q)) else none).map _ = _
  rw [if_pos h]; rfl
theorem op_mod_i (p q : Int) (h : 0 < q) : pu2 modD S (.int p) (.int q) = some (.int (p % q), S) := by
  show (if _ then some (Dv.int (p % q)) else none).map _ = _
  rw [if_pos h]; rfl
theorem op_fdiv_i (p q : Int) (h : 0 < q ∧ q < 1073741824) : pu2 fdivD S (.int p) (.int q) = some (.int (p / q), S) := by
  show (if _ then some (Dv.int (p / q)) else none).map _ = _
  rw [if_pos h]; rfl
@[simp] theorem op_lt_i (p q : Int) : pu2 ltD S (.int p) (.int q) = some (.bl (decide (p < q)), S) := rfl
@[simp] theorem op_le_i (p q : Int) : pu2 leD S (.int p) (.int q) = some (.bl (decide (p ≤ q)), S) := rfl
@[simp] theorem op_gt_i (p q : Int) : pu2 gtD S (.int p) (.int q) = some (.bl (decide (q < p)), S) := rfl
@[simp] theorem op_ge_i (p q : Int) : pu2 geD S (.int p) (.int q) = some (.bl (decide (q ≤ p)), S) := rfl
@[simp] theorem op_add_i (p q : Int) : addD S (.int p) (.int q) = some (.int (p + q), S) := rfl
def kEq (S : Sto) : Option Bool → Option (Dv × Sto)
  | some b => some (.bl b, S)
  | none => none
def kNe (S : Sto) : Option Bool → Option (Dv × Sto)
  | some b => some (.bl (!b), S)
  | none => none
@[simp] theorem ev_eqE : eqE S d1 d2 = kEq S (eqD S d1 d2) := by unfold eqE kEq; cases eqD S d1 d2 <;> rfl
@[simp] theorem ev_neE : neE S d1 d2 = kNe S (eqD S d1 d2) := by unfold neE kNe; cases eqD S d1 d2 <;> rfl
@[simp] theorem kEq_some : kEq S (some b) = some (.bl b, S) := rfl
@[simp] theorem kNe_some : kNe S (some b) = some (.bl (!b), S) := rfl
@[simp] theorem eq_ss (p q : Str) : eqD S (.str p) (.str q) = some (decide (p = q)) := rfl
@[simp] theorem eq_ii (p q : Int) : eqD S (.int p) (.int q) = some (decide (p = q)) := rfl
@[simp] theorem eq_bb (p q : Bool) : eqD S (.bl p) (.bl q) = some (decide (p = q)) := rfl
@[simp] theorem eq_nn : eqD S .non .non = some true := rfl
@[simp] theorem eq_ni (p : Int) : eqD S .non (.int p) = some false := rfl
@[simp] theorem eq_in (p : Int) : eqD S (.int p) .non = some false := rfl
@[simp] theorem eq_ns (p : Str) : eqD S .non (.str p) = some false := rfl
@[simp] theorem eq_sn (p : Str) : eqD S (.str p) .non = some false := rfl
@[simp] theorem eq_si (p : Str) (q : Int) : eqD S (.str p) (.int q) = some false := rfl
@[simp] theorem eq_is (p : Str) (q : Int) : eqD S (.int q) (.str p) = some false := rfl
@[simp] theorem is_non : pu2 (isD false) S d .non = some (.bl (match d with | .non => true | _ => false), S) := by cases d <;> rfl
@[simp] theorem isnot_non : pu2 (isD true) S d .non = some (.bl (match d with | .non => false | _ => true), S) := by cases d <;> rfl
@[simp] theorem is_bb (p q : Bool) : pu2 (isD false) S (.bl p) (.bl q) = some (.bl (decide (p = q)), S) := rfl
@[simp] theorem len_tup : lenD S [.tup l] = some (.int l.length, S) := rfl
@[simp] theorem len_lst : lenD S [.lst l] = some (.int l.length, S) := rfl
@[simp] theorem len_rol : lenD S [.rol l] = some (.int l.length, S) := rfl
@[simp] theorem abs_int (p : Int) : absD S [.int p] = some (.int (if p < 0 then -p else p), S) := rfl
@[simp] theorem list_tup : listD S [.tup l] = some (.lst l, S) := rfl
@[simp] theorem list_lst : listD S [.lst l] = some (.lst l, S) := rfl
@[simp] theorem tuple_tup : tupleD S [.tup l] = some (.tup l, S) := rfl
@[simp] theorem tuple_lst : tupleD S [.lst l] = some (.tup l, S) := rfl
def kIx (S : Sto) : Option Dv → Option (Dv × Sto)
  | some d => some (d, S)
  | none => none
@[simp] theorem kIx_some : kIx S (some d) = some (d, S) := rfl
@[simp] theorem ix_tup (n : Int) : ixD S (.tup l) (.int n) = kIx S (atI l n) := by show (atI l n).map _ = _; cases atI l n <;> rfl
@[simp] theorem ix_lst (n : Int) : ixD S (.lst l) (.int n) = kIx S (atI l n) := by show (atI l n).map _ = _; cases atI l n <;> rfl
@[simp] theorem ix_rol (n : Int) : ixD S (.rol l) (.int n) = kIx S (atI l n) := by show (atI l n).map _ = _; cases atI l n <;> rfl
@[simp] theorem ix_hdl (n : Int) : ixD S (.hdl k) (.int n) = kIx S (kIxL n (S[k]?)) := by
  simp only [ixD, asQ, asT, asL]; unfold kIxL; generalize S[k]? = z
  cases z with
  | none => rfl
  | some o => cases o with
    | lst l => simp only [Option.bind_some]; generalize atI l n = q; cases q <;> rfl
    | _ => rfl
@[simp] theorem atI_cons0 {γ : Type} (a : γ) (r : List γ) : atI (a :: r) 0 = some a := by unfold atI ixN; simp
theorem atI_nat' {γ : Type} (r : List γ) (m : Nat) : atI r (m : Int) = r[m]? := by
  unfold atI ixN
  rw [if_pos (by omega)]
  by_cases h : (m : Int) < r.length
  · rw [if_pos h]; simp
  · rw [if_neg h]; simp; omega
@[simp] theorem atI_lit1 {γ : Type} (r : List γ) : atI r 1 = r[1]? := atI_nat' r 1
@[simp] theorem atI_lit2 {γ : Type} (r : List γ) : atI r 2 = r[2]? := atI_nat' r 2
@[simp] theorem atI_lit3 {γ : Type} (r : List γ) : atI r 3 = r[3]? := atI_nat' r 3
@[simp] theorem atI_lit4 {γ : Type} (r : List γ) : atI r 4 = r[4]? := atI_nat' r 4
@[simp] theorem ixN_lit0 (m : Nat) : ixN (m + 1) 0 = some 0 := by unfold ixN; simp
theorem ixN_ok {m : Nat} {n : Int} (h0 : 0 ≤ n) (h1 : n < m) : ixN m n = some n.toNat := by unfold ixN; rw [if_pos h0, if_pos h1]
@[simp] theorem rngD_len (lo : Int) (n : Nat) : (rngD lo n).length = n := by unfold rngD; simp
@[simp] theorem ev_neg : eNeg f e S = bnd (f e S) negD := rfl
@[simp] theorem negD_int (p : Int) : negD (.int p) S = .ok (.int (-p)) S := rfl
/-- a def is run -/
def kRun : Out → Res Dv
  | .rt d S' => .ok d S'
  | .nx _ S' => .ok .non S'
  | .ex c fs _ S' => .ex c fs S'
  | _ => .no
theorem ev_run (np n : Nat) (h : l.length = np) : runF np n s S l = kRun (s (startE n l) S) := by
  unfold runF kRun
  rw [if_pos h]
  try (cases s (startE n l) S <;> rfl)
@[simp] theorem kRun_rt : kRun (.rt d S) = .ok d S := rfl
@[simp] theorem kRun_nx : kRun (.nx e S) = .ok .non S := rfl
@[simp] theorem kRun_ex : kRun (.ex c fs e S) = .ex c fs S := rfl
@[simp] theorem bnd_ex (k : α → Sto → Res β) : bnd (.ex c fs S) k = .ex c fs S := rfl
/-- cuts, parts -/
@[simp] theorem ev_onone : oNone e S = .ok none S := rfl
@[simp] theorem ev_osome : oSome f e S = bnd (f e S) oInt := rfl
@[simp] theorem oInt_int (p : Int) : oInt (.int p) S = .ok (some p) S := rfl
def kCut1 (lo hi : DO) (e : Env) (d : Dv) (S : Sto) : Res Dv := bnd (lo e S) fun l S2 => bnd (hi e S2) fun h S3 => ofO (cutD S3 d l h)
def kCut2 (hi : DO) (e : Env) (d : Dv) (l : Option Int) (S : Sto) : Res Dv := bnd (hi e S) fun h S3 => ofO (cutD S3 d l h)
def kCut3 (d : Dv) (l h : Option Int) (S : Sto) : Res Dv := ofO (cutD S d l h)
@[simp] theorem ev_cut (lo hi : DO) : eCut f lo hi e S = bnd (f e S) (kCut1 lo hi e) := rfl
@[simp] theorem ev_cut1 (lo hi : DO) : kCut1 lo hi e d S = bnd (lo e S) (kCut2 hi e d) := rfl
@[simp] theorem ev_cut2 (hi : DO) (z : Option Int) : kCut2 hi e d z S = bnd (hi e S) (kCut3 d z) := rfl
@[simp] theorem ev_cut3 (y z : Option Int) : kCut3 d y z S = ofO (cutD S d y z) := rfl
@[simp] theorem cut_tup (y z : Option Int) : cutD S (.tup l) y z = some (.tup (cutG l y z), S) := rfl
@[simp] theorem cut_lst (y z : Option Int) : cutD S (.lst l) y z = some (.lst (cutG l y z), S) := rfl
@[simp] theorem cut_rol (y z : Option Int) : cutD S (.rol l) y z = some (.lst (cutG l y z), S) := rfl
/-- texts walked, dicts, texts' methods -/
@[simp] theorem seqR_str (z : Str) : seqR (.str z) S = .ok (strL z) S := rfl
def kFzD (m : List (Key × Dv)) (S : Sto) : Res Dv := .ok (.dic m) S
@[simp] theorem ev_frzD (fd : DD) : eFrzD fd e S = bnd (fd e S) kFzD := rfl
@[simp] theorem ev_kfzD (m : List (Key × Dv)) : kFzD m S = .ok (.dic m) S := rfl
@[simp] theorem ev_dnil : dNil e S = .ok [] S := rfl
@[simp] theorem ev_pnil : pNil e S = .ok [] S := rfl
def kP1 (fv : DE) (fp : DP) (e : Env) (k : Dv) (S : Sto) : Res (List (Dv × Dv)) := bnd (fv e S) fun v S2 => bnd (fp e S2) fun l S3 => .ok ((k, v) :: l) S3
def kP2 (fp : DP) (e : Env) (k v : Dv) (S : Sto) : Res (List (Dv × Dv)) := bnd (fp e S) fun l S3 => .ok ((k, v) :: l) S3
def kP3 (k v : Dv) (m : List (Dv × Dv)) (S : Sto) : Res (List (Dv × Dv)) := .ok ((k, v) :: m) S
@[simp] theorem ev_pcons (fp : DP) : pCons f1 f2 fp e S = bnd (f1 e S) (kP1 f2 fp e) := rfl
@[simp] theorem ev_p1 (fp : DP) : kP1 f2 fp e d S = bnd (f2 e S) (kP2 fp e d) := rfl
@[simp] theorem ev_p2 (fp : DP) : kP2 fp e d1 d2 S = bnd (fp e S) (kP3 d1 d2) := rfl
@[simp] theorem ev_p3 (m : List (Dv × Dv)) : kP3 d1 d2 m S = .ok ((d1, d2) :: m) S := rfl
@[simp] theorem ev_disp (fp : DP) : dDisp fp e S = bnd (fp e S) kDisp := rfl
def kStr2 (h : Sto → Str → List Dv → Option (Dv × Sto)) (z : Str) (l : List Dv) (S : Sto) : Res Dv := ofO (h S z l)
@[simp] theorem ev_strM (h : Sto → Str → List Dv → Option (Dv × Sto)) : eStrM h f fa e S = bnd (f e S) (kStrM h fa e) := rfl
@[simp] theorem ev_kstrM (h : Sto → Str → List Dv → Option (Dv × Sto)) (z : Str) : kStrM h fa e (.str z) S = bnd (fa e S) (kStr2 h z) := rfl
@[simp] theorem ev_kstr2 (h : Sto → Str → List Dv → Option (Dv × Sto)) (z : Str) : kStr2 h z l S = ofO (h S z l) := rfl
def kLenO (S : Sto) : Option Sl → Res Dv
  | some (.own (.lst l)) => .ok (.int l.length) S
  | _ => .no
@[simp] theorem ev_lenO : eLenO i e S = kLenO S (e[i]?) := by unfold eLenO kLenO; rcases e[i]? with _ | (_ | _ | (l | _ | _ | _ | _)) <;> rfl
@[simp] theorem kLenO_ow : kLenO S (some (.ow l)) = .ok (.int l.length) S := rfl
def kHd (i : Nat) (e : Env) (S : Sto) : Option Sl → Out
  | some (.own o) => .nx (e.set i (.va (.hdl S.length))) (S ++ [o])
  | _ => .no
@[simp] theorem ev_shdl : sHdl i e S = kHd i e S (e[i]?) := by unfold sHdl kHd; cases e[i]? with
  | none => rfl
  | some s => cases s <;> rfl
@[simp] theorem kHd_ow (o : Ob) : kHd i e S (some (.own o)) = .nx (e.set i (.va (.hdl S.length))) (S ++ [o]) := rfl
def kHM1 (h : List Dv → List Dv → Option (List Dv × Dv)) (fa : DA) (e : Env) (o : Dv) (S : Sto) : Res Dv := if lstHd S o then bnd (fa e S) fun as S2 => hdlM h S2 o as else .no
def kHM2 (h : List Dv → List Dv → Option (List Dv × Dv)) (o : Dv) (as : List Dv) (S : Sto) : Res Dv := hdlM h S o as
def kHM3 (h : List Dv → List Dv → Option (List Dv × Dv)) (fa : DA) (e : Env) (o : Dv) (S : Sto) (b : Bool) : Res Dv := if b then bnd (fa e S) (kHM2 h o) else .no
@[simp] theorem ev_hdlM (h : List Dv → List Dv → Option (List Dv × Dv)) : eHdlM h f fa e S = bnd (f e S) (kHM1 h fa e) := rfl
@[simp] theorem ev_khm1 (h : List Dv → List Dv → Option (List Dv × Dv)) : kHM1 h fa e d S = kHM3 h fa e d S (lstHd S d) := rfl
@[simp] theorem ev_khm3 (h : List Dv → List Dv → Option (List Dv × Dv)) : kHM3 h fa e d S true = bnd (fa e S) (kHM2 h d) := rfl
@[simp] theorem ev_khm2 (h : List Dv → List Dv → Option (List Dv × Dv)) : kHM2 h d l S = hdlM h S d l := rfl
def kLh : Option Ob → Bool
  | some (.lst _) => true
  | _ => false
@[simp] theorem lstHd_hdl : lstHd S (.hdl k) = kLh (S[k]?) := by simp only [lstHd]; unfold kLh; generalize S[k]? = z; cases z with
  | none => rfl
  | some o => cases o <;> rfl
@[simp] theorem kLh_lst : kLh (some (.lst l)) = true := rfl
theorem hdlM_app (h1 : S[k]? = some (.lst l)) (h2 : l.length < sizeLine) : hdlM appD S (.hdl k) [d] = .ok .non (S.set k (.lst (l ++ [d]))) := by simp only [hdlM, h1, appD, if_pos h2]
end
section
variable {α β : Type} (S S' : Sto) (e : Env) (d d1 d2 d3 : Dv) (l l' : List Dv) (f f1 f2 f3 fo fi fv : DE) (t t1 t2 : DT) (fa : DA) (fl : DL) (fn : DN) (fdd : DD) (fb : DB) (s s1 s2 : DS) (o : Ob) (ss : List Sl) (i j k : Nat) (b : Bool) (c : Str) (fs : List (Str × Dv)) (m : List (Key × Dv))
/-- what may be own -/
def kAny (S : Sto) : Option Sl → Res Dv
  | some (.own o) => .ok (vwO o) S
  | some (.va d) => .ok d S
  | _ => .no
@[simp] theorem ev_any : eAny i e S = kAny S (e[i]?) := by unfold eAny kAny; rfl
@[simp] theorem kAny_va : kAny S (some (.va d)) = .ok d S := rfl
@[simp] theorem kAny_ow : kAny S (some (.ow l)) = .ok (.lst l) S := rfl
@[simp] theorem kAny_od : kAny S (some (.od m)) = .ok (.dic m) S := rfl
def kFy (i : Nat) (e : Env) (S : Sto) : Option Sl → Out
  | some (.own o) => .nx (e.set i (.va (frzO o))) S
  | some (.va _) => .nx e S
  | _ => .no
@[simp] theorem ev_sfz : sFz i e S = kFy i e S (e[i]?) := by unfold sFz kFy; rfl
@[simp] theorem kFy_va : kFy i e S (some (.va d)) = .nx e S := rfl
@[simp] theorem kFy_ow : kFy i e S (some (.ow l)) = .nx (e.set i (.va (.lst l))) S := rfl
@[simp] theorem kFy_od : kFy i e S (some (.od m)) = .nx (e.set i (.va (.dic m))) S := rfl
/-- new things -/
def kNL (l : List Dv) (S : Sto) : Res Ob := .ok (.lst l) S
@[simp] theorem ev_nL : nL fl e S = bnd (fl e S) kNL := rfl
@[simp] theorem ev_kNL : kNL l S = .ok (.lst l) S := rfl
def kND (l : List (Key × Dv)) (S : Sto) : Res Ob := .ok (.dct l) S
@[simp] theorem ev_nD : nD fdd e S = bnd (fdd e S) kND := rfl
@[simp] theorem ev_kND : kND m S = .ok (.dct m) S := rfl
def kFN (o : Ob) (S : Sto) : Res Dv := .ok (frzO o) S
@[simp] theorem ev_frzN : eFrzN fn e S = bnd (fn e S) kFN := rfl
@[simp] theorem ev_kFN : kFN o S = .ok (frzO o) S := rfl
@[simp] theorem frzO_l : frzO (.lst l) = .lst l := rfl
@[simp] theorem frzO_d : frzO (.dct m) = .dic m := rfl
@[simp] theorem frzO_i : frzO (.ins c fs) = .obj c fs := rfl
def kHN (o : Ob) (S : Sto) : Res Dv := .ok (.hdl S.length) (S ++ [o])
@[simp] theorem ev_hdlN : eHdlN fn e S = bnd (fn e S) kHN := rfl
@[simp] theorem ev_kHN : kHN o S = .ok (.hdl S.length) (S ++ [o]) := rfl
def qOwnN (i : Nat) (e : Env) (o : Ob) (S : Sto) : Out := .nx (e.set i (.own o)) S
@[simp] theorem ev_ownN : sOwnN i fn e S = kS (qOwnN i) e (fn e S) := ev_sbind ..
@[simp] theorem ev_qownN : qOwnN i e o S = .nx (e.set i (.own o)) S := rfl
@[simp] theorem ev_bnil : bNil e S = .ok [] S := rfl
def kB1' (fb : DB) (e : Env) (d : Dv) (S : Sto) : Res (List Sl) := bnd (fb e S) fun l S2 => .ok (.va d :: l) S2
def kB2' (d : Dv) (l : List Sl) (S : Sto) : Res (List Sl) := .ok (.va d :: l) S
def kB3' (fb : DB) (e : Env) (o : Ob) (S : Sto) : Res (List Sl) := bnd (fb e S) fun l S2 => .ok (.own o :: l) S2
def kB4' (o : Ob) (l : List Sl) (S : Sto) : Res (List Sl) := .ok (.own o :: l) S
@[simp] theorem ev_bva : bVa f fb e S = bnd (f e S) (kB1' fb e) := rfl
@[simp] theorem ev_bown : bOwn fn fb e S = bnd (fn e S) (kB3' fb e) := rfl
@[simp] theorem ev_b1' : kB1' fb e d S = bnd (fb e S) (kB2' d) := rfl
@[simp] theorem ev_b2' : kB2' d ss S = .ok (.va d :: ss) S := rfl
@[simp] theorem ev_b3' : kB3' fb e o S = bnd (fb e S) (kB4' o) := rfl
@[simp] theorem ev_b4' : kB4' o ss S = .ok (.own o :: ss) S := rfl
def qParB (is : List Nat) (e : Env) (ss : List Sl) (S : Sto) : Out := if ss.length = is.length then .nx (setSs is ss e) S else .no
@[simp] theorem ev_parB (is : List Nat) : sParB is fb e S = kS (qParB is) e (fb e S) := ev_sbind ..
@[simp] theorem ev_qparB2 (s1 s2 : Sl) : qParB [i, j] e [s1, s2] S = .nx ((e.set i s1).set j s2) S := rfl
@[simp] theorem ev_qparB3 (s1 s2 s3 : Sl) : qParB [i, j, k] e [s1, s2, s3] S = .nx (((e.set i s1).set j s2).set k s3) S := rfl
def qSO3 (i : Nat) (l : List Dv) (v : Dv) (e : Env) (S : Sto) : Option Nat → Out
  | some j => .nx (e.set i (.ow (l.set j v))) S
  | none => .no
def qSO2 (i : Nat) (l : List Dv) (v : Dv) (e : Env) (n : Dv) (S : Sto) : Out := match n with
  | .int n => qSO3 i l v e S (ixN l.length n)
  | _ => .no
def qSO1 (i : Nat) (fi : DE) (v : Dv) (e : Env) (S : Sto) : Option Sl → Out
  | some (.own (.lst l)) => kS (qSO2 i l v) e (fi e S)
  | _ => .no
def qSO (i : Nat) (fi : DE) (e : Env) (v : Dv) (S : Sto) : Out := qSO1 i fi v e S (e[i]?)
@[simp] theorem ev_setO : sSetO i fi fv e S = kS (qSO i fi) e (fv e S) := by
  unfold sSetO
  rw [ev_sbind]
  congr 1
@[simp] theorem ev_qSO : qSO i fi e d S = qSO1 i fi d e S (e[i]?) := rfl
@[simp] theorem ev_qSO1 : qSO1 i fi d e S (some (.ow l)) = kS (qSO2 i l d) e (fi e S) := rfl
@[simp] theorem ev_qSO2 (n : Int) : qSO2 i l d e (.int n) S = qSO3 i l d e S (ixN l.length n) := rfl
@[simp] theorem ev_qSO3 : qSO3 i l d e S (some j) = .nx (e.set i (.ow (l.set j d))) S := rfl
@[simp] theorem ev_fList : fList fa e S = bnd (fa e S) listK := rfl
@[simp] theorem listK_tup : listK [.tup l] S = .ok l S := rfl
@[simp] theorem listK_lst : listK [.lst l] S = .ok l S := rfl
@[simp] theorem listK_rol : listK [.rol l] S = .ok l S := rfl
/-- chains, ranges asked -/
def kC1 (h h' : Sto → Dv → Dv → Option (Dv × Sto)) (f2 f3 : DE) (e : Env) (a : Dv) (S : Sto) : Res Dv := bnd (f2 e S) fun b S2 => bnd (ofO (h S2 a b)) fun z S3 => match z with
  | .bl true => bnd (f3 e S3) fun c S4 => ofO (h' S4 b c)
  | .bl false => .ok (.bl false) S3
  | _ => .no
def kC3 (h' : Sto → Dv → Dv → Option (Dv × Sto)) (f3 : DE) (e : Env) (b : Dv) (z : Dv) (S : Sto) : Res Dv := match z with
  | .bl true => bnd (f3 e S) (kB2 h' b)
  | .bl false => .ok (.bl false) S
  | _ => .no
def kC2 (h h' : Sto → Dv → Dv → Option (Dv × Sto)) (f3 : DE) (e : Env) (a b : Dv) (S : Sto) : Res Dv := bnd (ofO (h S a b)) (kC3 h' f3 e b)
@[simp] theorem ev_chn (h h' : Sto → Dv → Dv → Option (Dv × Sto)) : eChn h h' f1 f2 f3 e S = bnd (f1 e S) (kC1 h h' f2 f3 e) := rfl
@[simp] theorem ev_c1 (h h' : Sto → Dv → Dv → Option (Dv × Sto)) : kC1 h h' f2 f3 e d S = bnd (f2 e S) (kC2 h h' f3 e d) := by
  unfold kC1
  congr 1
@[simp] theorem ev_c2 (h h' : Sto → Dv → Dv → Option (Dv × Sto)) : kC2 h h' f3 e d1 d2 S = bnd (ofO (h S d1 d2)) (kC3 h' f3 e d2) := rfl
@[simp] theorem ev_c3t (h' : Sto → Dv → Dv → Option (Dv × Sto)) : kC3 h' f3 e d (.bl true) S = bnd (f3 e S) (kB2 h' d) := rfl
@[simp] theorem ev_c3f (h' : Sto → Dv → Dv → Option (Dv × Sto)) : kC3 h' f3 e d (.bl false) S = .ok (.bl false) S := rfl
def kR1 (neg : Bool) (fa : DA) (e : Env) (a : Dv) (S : Sto) : Res Dv := bnd (fa e S) fun l S2 => rngK neg a l S2
@[simp] theorem ev_rngIn : eRngIn b f1 fa e S = bnd (f1 e S) (kR1 b fa e) := rfl
@[simp] theorem ev_kR1 : kR1 b fa e d S = bnd (fa e S) (rngK b d) := rfl
@[simp] theorem rngK_f (p lo hi : Int) : rngK false (.int p) [.int lo, .int hi] S = .ok (.bl (decide (lo ≤ p ∧ p < hi))) S := rfl
@[simp] theorem rngK_t (p lo hi : Int) : rngK true (.int p) [.int lo, .int hi] S = .ok (.bl (!decide (lo ≤ p ∧ p < hi))) S := rfl
/-- a name that stands for a def -/
def kCL (t : Str → Option DF) (fa : DA) (e : Env) (S : Sto) : Option Sl → Res Dv
  | some (.va (.glo x)) => match t x with
    | some g => bnd (fa e S) (kCall g)
    | none => .no
  | _ => .no
@[simp] theorem ev_callL (t : Str → Option DF) : eCallL t i fa e S = kCL t fa e S (e[i]?) := by unfold eCallL kCL; rfl
end
end DL
namespace DL
open PySem L2
section
variable (S : Sto) (b : Bool) (p : Int) (x : Str) (l : List Dv) (m : List (Key × Dv)) (k : Nat)
theorem kit_NoneType_str : kitB "NoneType" "str" = some false := by decide +kernel
theorem kit_NoneType_int : kitB "NoneType" "int" = some false := by decide +kernel
theorem kit_NoneType_bool : kitB "NoneType" "bool" = some false := by decide +kernel
theorem kit_NoneType_tuple : kitB "NoneType" "tuple" = some false := by decide +kernel
theorem kit_NoneType_list : kitB "NoneType" "list" = some false := by decide +kernel
theorem kit_NoneType_dict : kitB "NoneType" "dict" = some false := by decide +kernel
theorem kit_bool_str : kitB "bool" "str" = some false := by decide +kernel
theorem kit_bool_int : kitB "bool" "int" = some true := by decide +kernel
theorem kit_bool_bool : kitB "bool" "bool" = some true := by decide +kernel
theorem kit_bool_tuple : kitB "bool" "tuple" = some false := by decide +kernel
theorem kit_bool_list : kitB "bool" "list" = some false := by decide +kernel
theorem kit_bool_dict : kitB "bool" "dict" = some false := by decide +kernel
theorem kit_int_str : kitB "int" "str" = some false := by decide +kernel
theorem kit_int_int : kitB "int" "int" = some true := by decide +kernel
theorem kit_int_bool : kitB "int" "bool" = some false := by decide +kernel
theorem kit_int_tuple : kitB "int" "tuple" = some false := by decide +kernel
theorem kit_int_list : kitB "int" "list" = some false := by decide +kernel
theorem kit_int_dict : kitB "int" "dict" = some false := by decide +kernel
theorem kit_str_str : kitB "str" "str" = some true := by decide +kernel
theorem kit_str_int : kitB "str" "int" = some false := by decide +kernel
theorem kit_str_bool : kitB "str" "bool" = some false := by decide +kernel
theorem kit_str_tuple : kitB "str" "tuple" = some false := by decide +kernel
theorem kit_str_list : kitB "str" "list" = some false := by decide +kernel
theorem kit_str_dict : kitB "str" "dict" = some false := by decide +kernel
theorem kit_tuple_str : kitB "tuple" "str" = some false := by decide +kernel
theorem kit_tuple_int : kitB "tuple" "int" = some false := by decide +kernel
theorem kit_tuple_bool : kitB "tuple" "bool" = some false := by decide +kernel
theorem kit_tuple_tuple : kitB "tuple" "tuple" = some true := by decide +kernel
theorem kit_tuple_list : kitB "tuple" "list" = some false := by decide +kernel
theorem kit_tuple_dict : kitB "tuple" "dict" = some false := by decide +kernel
theorem kit_list_str : kitB "list" "str" = some false := by decide +kernel
theorem kit_list_int : kitB "list" "int" = some false := by decide +kernel
theorem kit_list_bool : kitB "list" "bool" = some false := by decide +kernel
theorem kit_list_tuple : kitB "list" "tuple" = some false := by decide +kernel
theorem kit_list_list : kitB "list" "list" = some true := by decide +kernel
theorem kit_list_dict : kitB "list" "dict" = some false := by decide +kernel
theorem kit_dict_str : kitB "dict" "str" = some false := by decide +kernel
theorem kit_dict_int : kitB "dict" "int" = some false := by decide +kernel
theorem kit_dict_bool : kitB "dict" "bool" = some false := by decide +kernel
theorem kit_dict_tuple : kitB "dict" "tuple" = some false := by decide +kernel
theorem kit_dict_list : kitB "dict" "list" = some false := by decide +kernel
theorem kit_dict_dict : kitB "dict" "dict" = some true := by decide +kernel
@[simp] theorem isi_non_str : isiD S [.non, .ty "str"] = some (.bl false, S) := by simp only [isiD, tyD, Option.bind_some, kit_NoneType_str, Option.map_some]
@[simp] theorem isi_non_int : isiD S [.non, .ty "int"] = some (.bl false, S) := by simp only [isiD, tyD, Option.bind_some, kit_NoneType_int, Option.map_some]
@[simp] theorem isi_non_bool : isiD S [.non, .ty "bool"] = some (.bl false, S) := by simp only [isiD, tyD, Option.bind_some, kit_NoneType_bool, Option.map_some]
@[simp] theorem isi_non_tuple : isiD S [.non, .ty "tuple"] = some (.bl false, S) := by simp only [isiD, tyD, Option.bind_some, kit_NoneType_tuple, Option.map_some]
@[simp] theorem isi_non_list : isiD S [.non, .ty "list"] = some (.bl false, S) := by simp only [isiD, tyD, Option.bind_some, kit_NoneType_list, Option.map_some]
@[simp] theorem isi_non_dict : isiD S [.non, .ty "dict"] = some (.bl false, S) := by simp only [isiD, tyD, Option.bind_some, kit_NoneType_dict, Option.map_some]
@[simp] theorem isi_non_tl : isiD S [.non, .tup [.ty "tuple", .ty "list"]] = some (.bl false, S) := by simp [isiD, tyD, kitD, tysOf, kitS, kit_NoneType_tuple, kit_NoneType_list]
@[simp] theorem isi_bl_str : isiD S [(.bl b), .ty "str"] = some (.bl false, S) := by simp only [isiD, tyD, Option.bind_some, kit_bool_str, Option.map_some]
@[simp] theorem isi_bl_int : isiD S [(.bl b), .ty "int"] = some (.bl true, S) := by simp only [isiD, tyD, Option.bind_some, kit_bool_int, Option.map_some]
@[simp] theorem isi_bl_bool : isiD S [(.bl b), .ty "bool"] = some (.bl true, S) := by simp only [isiD, tyD, Option.bind_some, kit_bool_bool, Option.map_some]
@[simp] theorem isi_bl_tuple : isiD S [(.bl b), .ty "tuple"] = some (.bl false, S) := by simp only [isiD, tyD, Option.bind_some, kit_bool_tuple, Option.map_some]
@[simp] theorem isi_bl_list : isiD S [(.bl b), .ty "list"] = some (.bl false, S) := by simp only [isiD, tyD, Option.bind_some, kit_bool_list, Option.map_some]
@[simp] theorem isi_bl_dict : isiD S [(.bl b), .ty "dict"] = some (.bl false, S) := by simp only [isiD, tyD, Option.bind_some, kit_bool_dict, Option.map_some]
@[simp] theorem isi_bl_tl : isiD S [(.bl b), .tup [.ty "tuple", .ty "list"]] = some (.bl false, S) := by simp [isiD, tyD, kitD, tysOf, kitS, kit_bool_tuple, kit_bool_list]
@[simp] theorem isi_int_str : isiD S [(.int p), .ty "str"] = some (.bl false, S) := by simp only [isiD, tyD, Option.bind_some, kit_int_str, Option.map_some]
@[simp] theorem isi_int_int : isiD S [(.int p), .ty "int"] = some (.bl true, S) := by simp only [isiD, tyD, Option.bind_some, kit_int_int, Option.map_some]
@[simp] theorem isi_int_bool : isiD S [(.int p), .ty "bool"] = some (.bl false, S) := by simp only [isiD, tyD, Option.bind_some, kit_int_bool, Option.map_some]
@[simp] theorem isi_int_tuple : isiD S [(.int p), .ty "tuple"] = some (.bl false, S) := by simp only [isiD, tyD, Option.bind_some, kit_int_tuple, Option.map_some]
@[simp] theorem isi_int_list : isiD S [(.int p), .ty "list"] = some (.bl false, S) := by simp only [isiD, tyD, Option.bind_some, kit_int_list, Option.map_some]
@[simp] theorem isi_int_dict : isiD S [(.int p), .ty "dict"] = some (.bl false, S) := by simp only [isiD, tyD, Option.bind_some, kit_int_dict, Option.map_some]
@[simp] theorem isi_int_tl : isiD S [(.int p), .tup [.ty "tuple", .ty "list"]] = some (.bl false, S) := by simp [isiD, tyD, kitD, tysOf, kitS, kit_int_tuple, kit_int_list]
@[simp] theorem isi_str_str : isiD S [(.str x), .ty "str"] = some (.bl true, S) := by simp only [isiD, tyD, Option.bind_some, kit_str_str, Option.map_some]
@[simp] theorem isi_str_int : isiD S [(.str x), .ty "int"] = some (.bl false, S) := by simp only [isiD, tyD, Option.bind_some, kit_str_int, Option.map_some]
@[simp] theorem isi_str_bool : isiD S [(.str x), .ty "bool"] = some (.bl false, S) := by simp only [isiD, tyD, Option.bind_some, kit_str_bool, Option.map_some]
@[simp] theorem isi_str_tuple : isiD S [(.str x), .ty "tuple"] = some (.bl false, S) := by simp only [isiD, tyD, Option.bind_some, kit_str_tuple, Option.map_some]
@[simp] theorem isi_str_list : isiD S [(.str x), .ty "list"] = some (.bl false, S) := by simp only [isiD, tyD, Option.bind_some, kit_str_list, Option.map_some]
@[simp] theorem isi_str_dict : isiD S [(.str x), .ty "dict"] = some (.bl false, S) := by simp only [isiD, tyD, Option.bind_some, kit_str_dict, Option.map_some]
@[simp] theorem isi_str_tl : isiD S [(.str x), .tup [.ty "tuple", .ty "list"]] = some (.bl false, S) := by simp [isiD, tyD, kitD, tysOf, kitS, kit_str_tuple, kit_str_list]
@[simp] theorem isi_tup_str : isiD S [(.tup l), .ty "str"] = some (.bl false, S) := by simp only [isiD, tyD, Option.bind_some, kit_tuple_str, Option.map_some]
@[simp] theorem isi_tup_int : isiD S [(.tup l), .ty "int"] = some (.bl false, S) := by simp only [isiD, tyD, Option.bind_some, kit_tuple_int, Option.map_some]
@[simp] theorem isi_tup_bool : isiD S [(.tup l), .ty "bool"] = some (.bl false, S) := by simp only [isiD, tyD, Option.bind_some, kit_tuple_bool, Option.map_some]
@[simp] theorem isi_tup_tuple : isiD S [(.tup l), .ty "tuple"] = some (.bl true, S) := by simp only [isiD, tyD, Option.bind_some, kit_tuple_tuple, Option.map_some]
@[simp] theorem isi_tup_list : isiD S [(.tup l), .ty "list"] = some (.bl false, S) := by simp only [isiD, tyD, Option.bind_some, kit_tuple_list, Option.map_some]
@[simp] theorem isi_tup_dict : isiD S [(.tup l), .ty "dict"] = some (.bl false, S) := by simp only [isiD, tyD, Option.bind_some, kit_tuple_dict, Option.map_some]
@[simp] theorem isi_tup_tl : isiD S [(.tup l), .tup [.ty "tuple", .ty "list"]] = some (.bl true, S) := by simp [isiD, tyD, kitD, tysOf, kitS, kit_tuple_tuple, kit_tuple_list]
@[simp] theorem isi_lst_str : isiD S [(.lst l), .ty "str"] = some (.bl false, S) := by simp only [isiD, tyD, Option.bind_some, kit_list_str, Option.map_some]
@[simp] theorem isi_lst_int : isiD S [(.lst l), .ty "int"] = some (.bl false, S) := by simp only [isiD, tyD, Option.bind_some, kit_list_int, Option.map_some]
@[simp] theorem isi_lst_bool : isiD S [(.lst l), .ty "bool"] = some (.bl false, S) := by simp only [isiD, tyD, Option.bind_some, kit_list_bool, Option.map_some]
@[simp] theorem isi_lst_tuple : isiD S [(.lst l), .ty "tuple"] = some (.bl false, S) := by simp only [isiD, tyD, Option.bind_some, kit_list_tuple, Option.map_some]
@[simp] theorem isi_lst_list : isiD S [(.lst l), .ty "list"] = some (.bl true, S) := by simp only [isiD, tyD, Option.bind_some, kit_list_list, Option.map_some]
@[simp] theorem isi_lst_dict : isiD S [(.lst l), .ty "dict"] = some (.bl false, S) := by simp only [isiD, tyD, Option.bind_some, kit_list_dict, Option.map_some]
@[simp] theorem isi_lst_tl : isiD S [(.lst l), .tup [.ty "tuple", .ty "list"]] = some (.bl true, S) := by simp [isiD, tyD, kitD, tysOf, kitS, kit_list_tuple, kit_list_list]
@[simp] theorem isi_rol_str : isiD S [(.rol l), .ty "str"] = some (.bl false, S) := by simp only [isiD, tyD, Option.bind_some, kit_list_str, Option.map_some]
@[simp] theorem isi_rol_int : isiD S [(.rol l), .ty "int"] = some (.bl false, S) := by simp only [isiD, tyD, Option.bind_some, kit_list_int, Option.map_some]
@[simp] theorem isi_rol_bool : isiD S [(.rol l), .ty "bool"] = some (.bl false, S) := by simp only [isiD, tyD, Option.bind_some, kit_list_bool, Option.map_some]
@[simp] theorem isi_rol_tuple : isiD S [(.rol l), .ty "tuple"] = some (.bl false, S) := by simp only [isiD, tyD, Option.bind_some, kit_list_tuple, Option.map_some]
@[simp] theorem isi_rol_list : isiD S [(.rol l), .ty "list"] = some (.bl true, S) := by simp only [isiD, tyD, Option.bind_some, kit_list_list, Option.map_some]
@[simp] theorem isi_rol_dict : isiD S [(.rol l), .ty "dict"] = some (.bl false, S) := by simp only [isiD, tyD, Option.bind_some, kit_list_dict, Option.map_some]
@[simp] theorem isi_rol_tl : isiD S [(.rol l), .tup [.ty "tuple", .ty "list"]] = some (.bl true, S) := by simp [isiD, tyD, kitD, tysOf, kitS, kit_list_tuple, kit_list_list]
@[simp] theorem isi_dic_str : isiD S [(.dic m), .ty "str"] = some (.bl false, S) := by simp only [isiD, tyD, Option.bind_some, kit_dict_str, Option.map_some]
@[simp] theorem isi_dic_int : isiD S [(.dic m), .ty "int"] = some (.bl false, S) := by simp only [isiD, tyD, Option.bind_some, kit_dict_int, Option.map_some]
@[simp] theorem isi_dic_bool : isiD S [(.dic m), .ty "bool"] = some (.bl false, S) := by simp only [isiD, tyD, Option.bind_some, kit_dict_bool, Option.map_some]
@[simp] theorem isi_dic_tuple : isiD S [(.dic m), .ty "tuple"] = some (.bl false, S) := by simp only [isiD, tyD, Option.bind_some, kit_dict_tuple, Option.map_some]
@[simp] theorem isi_dic_list : isiD S [(.dic m), .ty "list"] = some (.bl false, S) := by simp only [isiD, tyD, Option.bind_some, kit_dict_list, Option.map_some]
@[simp] theorem isi_dic_dict : isiD S [(.dic m), .ty "dict"] = some (.bl true, S) := by simp only [isiD, tyD, Option.bind_some, kit_dict_dict, Option.map_some]
@[simp] theorem isi_dic_tl : isiD S [(.dic m), .tup [.ty "tuple", .ty "list"]] = some (.bl false, S) := by simp [isiD, tyD, kitD, tysOf, kitS, kit_dict_tuple, kit_dict_list]
theorem isi_hdl_list (h : S[k]? = some (.lst l)) : isiD S [.hdl k, .ty "list"] = some (.bl true, S) := by simp [isiD, tyD, kit_list_list, h]
/-- a turn of a for -/
theorem forR_nx {gd : DG} {body : DS} {d : Dv} {ds : List Dv} {e e1 e2 : Env} {S S1 : Sto} (h1 : gd d e = some e1) (h2 : body e1 S = .nx e2 S1) : forR gd body (d :: ds) e S = forR gd body ds e2 S1 := by simp only [forR, h1, h2]
theorem forR_rt {gd : DG} {body : DS} {d r : Dv} {ds : List Dv} {e e1 : Env} {S S1 : Sto} (h1 : gd d e = some e1) (h2 : body e1 S = .rt r S1) : forR gd body (d :: ds) e S = .rt r S1 := by simp only [forR, h1, h2]
theorem kLcEnd' (h : l.length ≤ 16777216) : kLcEnd (.ok l S) = .ok l S := kLcEnd_ok S l (by rw [sizeLine_eq]; exact h)
theorem lcR_t {tg : DG} {tt : DT} {te : DE} {e e1 : Env} {d y : Dv} {ds l : List Dv} {S S1 S2 S3 : Sto} (h1 : tg d e = some e1) (h2 : tt e1 S = .ok true S1) (h3 : te e1 S1 = .ok y S2) (h4 : lcR tg tt te e ds S2 = .ok l S3) : lcR tg tt te e (d :: ds) S = .ok (y :: l) S3 := by simp only [lcR, h1, h2, h3, h4, if_true]
end
end DL
namespace TX
open PySem PySem.Spec PyProof.Rows L2
def ltS (a b : Str) : Prop := a.cps.toList < b.cps.toList
instance (a b : Str) : Decidable (ltS a b) := inferInstanceAs (Decidable (a.cps.toList < b.cps.toList))
def insS (x : Str) : List Str → List Str
  | [] => [x]
  | y :: r => if x = y then y :: r else if ltS x y then x :: y :: r else y :: insS x r
def srtS (l : List Str) : List Str := l.foldr insS []
end TX
namespace DL
open PySem L2
def strsD : List Dv → Option (List Str)
  | [] => some []
  | .str x :: l => (strsD l).map (x :: ·)
  | _ :: _ => none
/-- sorted(set(x)), x a list of texts -/
def srtSetK (l : List Dv) (S : Sto) : Res (List Dv) := match l with
  | [d] => match (asL S d).bind strsD with
    | some ws => if ws.length ≤ 4000 then .ok ((TX.srtS ws).map Dv.str) S else .no
    | none => .no
  | _ => .no
def fSrtSet (fa : DA) : DL := fun e S => bnd (fa e S) srtSetK
end DL
namespace DL
open PySem L2
/-- sorted(set(x)) as it is run -/
@[simp] theorem ev_srtSet (fa : DA) (e : Env) (S : Sto) : fSrtSet fa e S = bnd (fa e S) srtSetK := rfl
end DL
namespace DL
open PySem L2
section
variable (S S' : Sto) (e : Env) (d d1 d2 d3 : Dv) (l l' : List Dv) (f f1 f2 f3 fo fi fv : DE) (fa : DA) (fl fl1 : DL) (c m x : Str) (g : DF) (k i j : Nat)
@[simp] theorem ev_fld : eFld c x f e S = bnd (f e S) (kFld c x) := rfl
def kFld2 (S : Sto) : Option Dv → Res Dv
  | some x => .ok x S
  | none => .no
@[simp] theorem kFld_obj (fs : List (Str × Dv)) : kFld c x (.obj c fs) S = kFld2 S (fs.lookup x) := by
  simp only [kFld, insOf, if_true]; unfold kFld2; cases fs.lookup x <;> rfl
@[simp] theorem kFld2_some : kFld2 S (some d) = .ok d S := rfl
@[simp] theorem ev_meth (dl : List Dv) : eMeth c m dl g fo fa e S = bnd (fo e S) (kMeth c m dl g fa e) := rfl
def kMe2 (dl : List Dv) (g : DF) (d : Dv) (as : List Dv) (S : Sto) : Res Dv := g S (d :: (as ++ dl))
theorem kMeth_obj (dl : List Dv) (fs : List (Str × Dv)) (h : (fs.lookup m).isNone = true) : kMeth c m dl g fa e (.obj c fs) S = bnd (fa e S) (kMe2 dl g (.obj c fs)) := by
  simp only [kMeth, insOf, h, and_self, if_true]; rfl
@[simp] theorem ev_me2 (dl as : List Dv) : kMe2 dl g d as S = g S (d :: (as ++ dl)) := rfl
def kCm (c : Str) (g : DF) (l : List Dv) (S : Sto) : Res Dv := g S (.glo c :: l)
@[simp] theorem ev_cm : eCm c g fa e S = bnd (fa e S) (kCm c g) := rfl
@[simp] theorem ev_kcm : kCm c g l S = g S (.glo c :: l) := rfl
@[simp] theorem ev_tab (t : List (Str × Dv)) : eTab t f e S = bnd (f e S) (tabD t) := rfl
def kTab2 (S : Sto) : Option Dv → Res Dv
  | some x => .ok x S
  | none => .no
@[simp] theorem tabD_str (t : List (Str × Dv)) (z : Str) : tabD t (.str z) S = kTab2 S (t.lookup z) := by simp only [tabD]; unfold kTab2; cases t.lookup z <;> rfl
@[simp] theorem kTab2_some : kTab2 S (some d) = .ok d S := rfl
@[simp] theorem ev_zip : iZip' fa e S = bnd (fa e S) zipR := rfl
@[simp] theorem ev_enum : iEnum' fa e S = bnd (fa e S) enumR := rfl
@[simp] theorem zipR_tt : zipR [.tup l, .tup l'] S = .ok (zipD l l') S := rfl
@[simp] theorem zipR_tl : zipR [.tup l, .lst l'] S = .ok (zipD l l') S := rfl
@[simp] theorem zipR_lt : zipR [.lst l, .tup l'] S = .ok (zipD l l') S := rfl
@[simp] theorem zipR_ll : zipR [.lst l, .lst l'] S = .ok (zipD l l') S := rfl
@[simp] theorem enumR_t : enumR [.tup l] S = .ok (enumD l) S := rfl
@[simp] theorem enumR_l : enumR [.lst l] S = .ok (enumD l) S := rfl
@[simp] theorem ev_ddict : dDict fa e S = bnd (fa e S) dictK := rfl
@[simp] theorem ev_revT : eRevT f e S = bnd (f e S) revD := rfl
end
end DL
namespace DL
open PySem L2
end DL
namespace DL
open PySem L2
theorem deep_same {S : Sto} {a b : Dv} {p : PyData} (ha : toP (res S a) = some p) (hb : toP (res S b) = some p) (hp : SeqAt.shaped p = true) : deepE S a b = some true := by
  unfold deepE
  rw [ha, hb]
  simp only [Option.bind_some, hp, Bool.and_self, if_true]
  rw [PySem.SeqAt.eqv_refl p (SeqAt.canLay_of_shaped hp)]
def Rp (d : Dv) (p : PyData) : Prop := ∀ m S, toP (deref m S d) = some p
def Rps (l : List Dv) (ps : List PyData) : Prop := ∀ m S, toPs (l.map (deref m S)) = some ps
theorem rps_nil : Rps [] [] := fun _ _ => rfl
theorem rps_cons {d : Dv} {l : List Dv} {p : PyData} {ps : List PyData} (h1 : Rp d p) (h2 : Rps l ps) : Rps (d :: l) (p :: ps) := fun m S => by
  rw [List.map_cons]
  unfold toPs
  rw [h1 m S, h2 m S]
  rfl
theorem rp_non : Rp .non .none := fun m S => by cases m <;> rfl
theorem rp_int (n : Int) : Rp (.int n) (.int n) := fun m S => by cases m <;> rfl
theorem rp_str (x : Str) : Rp (.str x) (.str x) := fun m S => by cases m <;> rfl
theorem map_deref0 (S : Sto) (l : List Dv) : l.map (deref 0 S) = l := by rw [show deref 0 S = id from rfl, List.map_id]
theorem rp_tup {l : List Dv} {ps : List PyData} (h : Rps l ps) : Rp (.tup l) (.tuple ps) := fun m S => by
  cases m with
  | zero => show (toPs l).map PyData.tuple = _; have := h 0 S; rw [map_deref0] at this; rw [this]; rfl
  | succ m => show (toPs (l.map (deref m S))).map PyData.tuple = _; rw [h m S]; rfl
theorem rp_lst {l : List Dv} {ps : List PyData} (h : Rps l ps) : Rp (.lst l) (.list ps) := fun m S => by
  cases m with
  | zero => show (toPs l).map PyData.list = _; have := h 0 S; rw [map_deref0] at this; rw [this]; rfl
  | succ m => show (toPs (l.map (deref m S))).map PyData.list = _; rw [h m S]; rfl
theorem cl_cons (p : PyData) (ps : List PyData) : PyData.canLayAll0 (p :: ps) = (p.canLay0 && PyData.canLayAll0 ps) := by simp [PyData.canLayAll0]
theorem da_cons (p : PyData) (ps : List PyData) : PyData.depthAll (p :: ps) = max p.depth (PyData.depthAll ps) := by simp [PyData.depthAll]
theorem shaped_of {p : PyData} (h1 : p.canLay0 = true) (h2 : p.depth ≤ 64) : SeqAt.shaped p = true := by
  unfold SeqAt.shaped
  rw [h1, decide_eq_true h2]; rfl
/-- plain data of a depth -/
def Pl (n : Nat) (d : Dv) : Prop := ∃ p, Rp d p ∧ p.canLay0 = true ∧ p.depth ≤ n
def Pls (n : Nat) (l : List Dv) : Prop := ∃ ps, Rps l ps ∧ PyData.canLayAll0 ps = true ∧ PyData.depthAll ps ≤ n
theorem pls_of {n : Nat} : ∀ l : List Dv, (∀ d ∈ l, Pl n d) → Pls n l
  | [], _ => ⟨[], rps_nil, rfl, Nat.zero_le _⟩
  | d :: l, h => by
    obtain ⟨p, a1, a2, a3⟩ := h d (List.mem_cons_self ..)
    obtain ⟨ps, h1, h2, h3⟩ := pls_of l fun x hx => h x (List.mem_cons_of_mem _ hx)
    exact ⟨p :: ps, rps_cons a1 h1, by rw [cl_cons, a2, h2]; rfl, by rw [da_cons]; exact Nat.max_le.mpr ⟨a3, h3⟩⟩
theorem pl_non (n : Nat) : Pl n .non := ⟨_, rp_non, by simp [PyData.canLay0], by simp [PyData.depth]⟩
theorem pl_int (n : Nat) (i : Int) : Pl n (.int i) := ⟨_, rp_int i, by simp [PyData.canLay0], by simp [PyData.depth]⟩
theorem pl_str {n : Nat} {x : Str} (h : (PyData.str x).canLay0 = true) : Pl n (.str x) := ⟨_, rp_str x, h, by simp [PyData.depth]⟩
theorem pl_tup {n : Nat} {l : List Dv} (h : ∀ d ∈ l, Pl n d) : Pl (n + 1) (.tup l) := by
  obtain ⟨ps, h1, h2, h3⟩ := pls_of l h
  exact ⟨_, rp_tup h1, by simpa [PyData.canLay0] using h2, by simp [PyData.depth]; omega⟩
theorem Pl.deep {d : Dv} (h : Pl 64 d) (S : Sto) : deepE S d d = some true := by
  obtain ⟨p, h1, h2, h3⟩ := h
  exact deep_same (h1 40 S) (h1 40 S) (shaped_of h2 h3)
theorem eq_tup_same {l : List Dv} (S : Sto) (h : Pl 64 (.tup l)) : eqD S (.tup l) (.tup l) = some true := by
  show (if lenNe (asL S (.tup l)) (asL S (.tup l)) then some false else deepE S (.tup l) (.tup l)) = _
  rw [show lenNe (asL S (.tup l)) (asL S (.tup l)) = false from rfl, if_neg Bool.false_ne_true]
  exact h.deep S
end DL
namespace DL
open PySem L2
end DL
namespace DL
open PySem L2
structure InF (K : PySem.W.Frag) (C : Addr) : Prop where
  cl : Cls K C
  ha : PySem.W.findIn K (.ref C) "__class__" = some (some (.builtin "object.__class__"))
  hn : PySem.W.specialIn K (.builtin "object.__class__") "__get__" = some (some (.builtin "getset_descriptor.__get__"))
  htk : PySem.W.takesIn K (.builtin "object.__class__") = some true
  hm : PySem.W.mroIn K C (.type "object") = some true
def infB (c : Str) : Ft := .any fun K => (faB (.cls c)).ok K && (PySem.W.findIn K (.ref (He.ga K c)) "__class__" == some (some (.builtin "object.__class__"))) && (PySem.W.specialIn K (.builtin "object.__class__") "__get__" == some (some (.builtin "getset_descriptor.__get__"))) && (PySem.W.takesIn K (.builtin "object.__class__") == some true) && (PySem.W.mroIn K (He.ga K c) (.type "object") == some true)
theorem inf_f {K : PySem.W.Frag} {c : Str} (h : (infB c).ok K = true) : InF K (He.ga K c) := by
  have h0 : ((faB (.cls c)).ok K && (PySem.W.findIn K (.ref (He.ga K c)) "__class__" == some (some (.builtin "object.__class__"))) && (PySem.W.specialIn K (.builtin "object.__class__") "__get__" == some (some (.builtin "getset_descriptor.__get__"))) && (PySem.W.takesIn K (.builtin "object.__class__") == some true) && (PySem.W.mroIn K (He.ga K c) (.type "object") == some true)) = true := h
  obtain ⟨h0, h5⟩ := He.ba h0
  obtain ⟨h0, h4⟩ := He.ba h0
  obtain ⟨h0, h3⟩ := He.ba h0
  obtain ⟨h1, h2⟩ := He.ba h0
  exact ⟨cls_f h1, beq_iff_eq.mp h2, beq_iff_eq.mp h3, beq_iff_eq.mp h4, beq_iff_eq.mp h5⟩
def blt : List String := ["NoneType", "bool", "int", "str", "tuple", "list", "dict"]
/-- isinstance against the own class c: the classes in sub answer as it says, built-in things no -/
structure IsO (K : PySem.W.Frag) (c : Str) (sub : List (Str × Bool)) : Prop where
  own : ∀ c' b, sub.lookup c' = some b → InF K (He.ga K c') ∧ PySem.W.kitOne K (.ref (He.ga K c')) (.ref (He.ga K c)) = some b
  blt : ∀ T ∈ blt, PySem.W.kitOne K (.type T) (.ref (He.ga K c)) = some false
def isoB (c : Str) (sub : List (Str × Bool)) : Ft := .any fun K => (sub.all fun q => (infB q.1).ok K && (PySem.W.kitOne K (.ref (He.ga K q.1)) (.ref (He.ga K c)) == some q.2)) && blt.all fun T => PySem.W.kitOne K (.type T) (.ref (He.ga K c)) == some false
theorem mem_lookupB {k : Str} {d : Bool} : ∀ {l : List (Str × Bool)}, l.lookup k = some d → (k, d) ∈ l
  | [], h => by simp at h
  | (k', d') :: l, h => by
    rw [List.lookup_cons] at h
    cases e : k == k' with
    | true =>
      rw [e] at h
      cases h
      rw [beq_iff_eq.mp e]
      exact List.mem_cons_self
    | false => rw [e] at h; exact List.mem_cons_of_mem _ (mem_lookupB h)
theorem iso_f {K : PySem.W.Frag} {c : Str} {sub : List (Str × Bool)} (h : (isoB c sub).ok K = true) : IsO K c sub := by
  have h0 : ((sub.all fun q => (infB q.1).ok K && (PySem.W.kitOne K (.ref (He.ga K q.1)) (.ref (He.ga K c)) == some q.2)) && blt.all fun T => PySem.W.kitOne K (.type T) (.ref (He.ga K c)) == some false) = true := h
  obtain ⟨h1, h2⟩ := He.ba h0
  refine ⟨fun c' b hl => ?_, fun T hT => beq_iff_eq.mp (List.all_eq_true.mp h2 T hT)⟩
  have h3 := List.all_eq_true.mp h1 (c', b) (mem_lookupB hl)
  obtain ⟨h4, h5⟩ := He.ba h3
  exact ⟨inf_f h4, beq_iff_eq.mp h5⟩
def isoD (c : Str) (sub : List (Str × Bool)) (S : Sto) : List Dv → Option (Dv × Sto)
  | [d, .glo x] => if x = c then (match insOf S d with
    | some (c', _) => (sub.lookup c').map fun b => (.bl b, S)
    | none => (tyD S d).map fun _ => (.bl false, S)) else none
  | _ => none
section
variable {K : Kw} {L : Addr → Prop} {io : List Addr} {H : Hp} {S : Sto}
theorem tyD_blt {d : Dv} {t : String} (e : tyD S d = some t) : t ∈ blt := by
  unfold tyD at e
  split at e <;> first | (cases e; decide) | (split at e <;> first | (cases e; decide) | cases e) | cases e
/-- the type of an instance, a handle or one in a slot -/
theorem insOf_ty (s : SR K L io H S) {v : V} {d : Dv} {c : Str} {fs : List (Str × Dv)} (r : VX K L io H v d) (e : insOf S d = some (c, fs)) : ∃ p dx vs, v = .ref p ∧ H p = some (.ins (He.ga K c) dx vs) := by
  rcases r with r | ⟨p, o, rfl, rfl, np, ob⟩
  · obtain ⟨p, dx, vs, h1, h2, _⟩ := insOf_ok s r e
    exact ⟨p, dx, vs, h1, h2⟩
  · cases o with
    | ins c' fs' => cases e; obtain ⟨dx, vs, h1, _⟩ := ob; exact ⟨p, dx, vs, rfl, h1⟩
    | _ => cases e
theorem cas_iso {c : Str} {sub : List (Str × Bool)} (hi : IsO K c sub) : CaS K (rIsi K) (isoD c sub) := by
  intro L io H S xs l d S' Q sr rv e q
  cases rv with
  | nil => cases e
  | cons r t =>
    cases t with
    | nil => cases e
    | cons r2 t2 =>
      cases t2 with
      | cons r3 t3 => rename_i d2 _ _ _ _; cases d2 <;> cases e
      | nil =>
        rename_i v dd w cc
        cases cc with
        | glo x =>
          simp only [isoD] at e
          split at e
          · rename_i hx
            subst hx
            cases (r2.vr rfl) with
            | glo x =>
              cases h1 : insOf S dd with
              | some z =>
                obtain ⟨c', fs⟩ := z
                rw [h1] at e
                obtain ⟨b, h2, h3⟩ := map_ok e
                cases h3
                obtain ⟨f, hk⟩ := hi.own c' b h2
                obtain ⟨p, dx, vs, rfl, hp⟩ := insOf_ty sr r h1
                exact ⟨_, _, _, _, b, rfl, .own _, .base (.ins hp f.cl f.ha f.hn f.htk f.hm), hk, q _ H L io (Stp.refl ..) sr (.bl _)⟩
              | none =>
                rw [h1] at e
                obtain ⟨t, h2, h3⟩ := map_ok e
                cases h3
                exact ⟨_, _, _, _, false, rfl, .own _, tyD_ok sr r h2, hi.blt t (tyD_blt h2), q _ H L io (Stp.refl ..) sr (.bl _)⟩
          · cases e
        | _ => cases e
end
structure EqF (K : PySem.W.Frag) (C : Addr) : Prop where
  inf : InF K C
  ne : PySem.W.findIn K (.ref C) "__ne__" = some (some (.builtin "object.__ne__"))
  sub : ∀ T ∈ blt, PySem.W.subIn K (.type T) (.ref C) = some false
def eqfB (c : Str) : Ft := .any fun K => (infB c).ok K && (PySem.W.findIn K (.ref (He.ga K c)) "__ne__" == some (some (.builtin "object.__ne__"))) && blt.all fun T => PySem.W.subIn K (.type T) (.ref (He.ga K c)) == some false
theorem eqf_f {K : PySem.W.Frag} {c : Str} (h : (eqfB c).ok K = true) : EqF K (He.ga K c) := by
  have h0 : ((infB c).ok K && (PySem.W.findIn K (.ref (He.ga K c)) "__ne__" == some (some (.builtin "object.__ne__"))) && blt.all fun T => PySem.W.subIn K (.type T) (.ref (He.ga K c)) == some false) = true := h
  obtain ⟨h0, h3⟩ := He.ba h0
  obtain ⟨h1, h2⟩ := He.ba h0
  exact ⟨inf_f h1, beq_iff_eq.mp h2, fun T hT => beq_iff_eq.mp (List.all_eq_true.mp h3 T hT)⟩
section
variable {X : Cx} {W : WX} {k : Nat} {f : Addr} {fd : FuncData} {ps : List Str} {sp : Sp} {dvs : List V} {ds : List Value}
/-- a callee runs below a built-in -/
theorem run_gA {A : Around} {pins : List (Addr × Obj)} {g : St} {H : Hp} {s : Shared} {Q : VK} {us : List Value} {vs : List V} (hfr : A.frames = X.A.frames) (F : FnG X.prog X.w X.kw X.mg X.base k f fd ps sp) (hr : RoomG k A) (hb : Binds X.kw fd ps ds) (hd : Vals dvs ds) (tk : Takes X W)
    (I : Inv X pins g H s) (r : Vals vs us) (h : sp (vs ++ dvs) H Q (fun c d H' => W c d g H')) : wpAny (model X.prog X.w) A (call (.ref f) us) (EP X pins g Q) X.xe s := by
  have r2 := r.append hd
  have hl : (us ++ ds).length = ps.length := by
    rw [← r2.length]
    exact F.len _ _ _ _ h
  have e0 : Env0 X.prog X.w X.kw X.mg X.base A X.stack s H := by
    have e := I.env0
    exact ⟨by rw [hfr]; exact e.frames, e.mod, e.bs, e.bsz, e.funs, e.frf, e.hok, e.bare⟩
  refine wpAny_call (codeAny_mono (F.run A X.stack s H ⟨us, []⟩ _ _ Q _ hr e0 (hb s us I.kIn hl) r2 h) fun rr s' z => ?_)
  match rr, z with
  | .error e, z => exact tk e s' (XE.of_call I (fun _ _ _ q => q) z)
  | .ok (.ret u), z => exact I.after z
  | .ok .next, z => exact z.elim
  | .ok .brk, z => exact z.elim
  | .ok .cont, z => exact z.elim
end
def rgtOk (S : Sto) (c : Str) (b : Dv) : Bool := match insOf S b with
  | some (c', _) => decide (c' = c)
  | none => (tyD S b).isSome
def blR (neg : Bool) : Res Dv → Res Dv
  | .ok (.bl r) S' => .ok (.bl (if neg then !r else r)) S'
  | _ => .no
def kEqO (neg : Bool) (c : Str) (g : DF) (a b : Dv) (S : Sto) : Res Dv := match insOf S a with
  | some (c', _) => if c' = c ∧ rgtOk S c b = true then blR neg (g S [a, b]) else .no
  | none => .no
def eEqO (neg : Bool) (c : Str) (g : DF) (f1 f2 : DE) : DE := fun e S => bnd (f1 e S) fun a S1 => bnd (f2 e S1) fun b S2 => kEqO neg c g a b S2
/-- what the own == of the class at C asks -/
def rEqO (K : Kw) (c : Str) (g : DF) (neg : Bool) : R2 := fun x y H Q => ∃ a dx fs t, x = .ref a ∧ H a = some (.ins (He.ga K c) dx fs) ∧ TyX K H y t ∧ PySem.W.notFirst K (He.ga K c) t = true ∧
  spD K g [x, y] H (fun v H' => ∃ r, v = .bl r ∧ Q (.bl (if neg then !r else r)) H') (fun _ _ _ => False)
section
variable {X : Cx} {W : WX} {k : Nat} {c : Str} {g : DF} {pos : Pos} {a b : Expr} {f1 f2 : DE}
theorem op_eqO (F : FM X.prog X.w X.kw X.mg X.base k c "__eq__" [] g) (hr : RoomG (k + 1) X.A) : OpR X (compareOp .Eq) (rEqO X.kw c g false) := by
  rintro pins s σ H x y v u Q I rx ry ⟨a, dx, fs, t, rfl, ha, ht, hn, hsp⟩
  cases (show v = Value.ref a from rx)
  obtain ⟨f, fd, ps, ds, dvs, F, hc, hm, hb, hv, hd⟩ := F
  obtain ⟨mA, J, _⟩ := ins_get I.hok ha
  obtain ⟨od, J, _⟩ := J.look
  obtain ⟨P, hk, hp, _⟩ := kit_of I ry ht
  obtain ⟨m, hF⟩ := I.fr
  have dn : dvs = [] := by
    have := hd (fun _ => False) [] (fun _ => none)
    cases this; rfl
  subst dn
  refine PySem.W.cmp_K (op := .Eq) hr.r.units0 hF I.ok.mod.kin J (hk.ty _ _ I.kIn hp) hn hm.at_ hm.fn (thn (run_g (us := [.ref a, u]) (vs := [.ref a, y]) F hr.low hb hv takesW0 I (.cons rfl (.cons ry .nil)) (by rw [List.append_nil]; exact hsp)) fun w s' z => ?_)
  obtain ⟨z, H', I', rz, r, rfl, q⟩ := z
  cases (show w = Value.bool r from rz)
  exact ⟨.bl r, H', I', rfl, q⟩
theorem rgt_ok {L : Addr → Prop} {io : List Addr} {H : Hp} {S : Sto} {K : Kw} {y : V} {d : Dv} (hE : EqF K (He.ga K c)) (s : SR K L io H S) (r : VR K L io H y d) (h : rgtOk S c d = true) : ∃ t, TyX K H y t ∧ PySem.W.notFirst K (He.ga K c) t = true := by
  unfold rgtOk at h
  cases e : insOf S d with
  | some z =>
    obtain ⟨c', fs⟩ := z
    rw [e] at h
    have hc : c' = c := by simpa using h
    subst hc
    obtain ⟨p, dx, vs, rfl, hp⟩ := insOf_ty s (.inl r) e
    exact ⟨_, .base (.ins hp hE.inf.cl hE.inf.ha hE.inf.hn hE.inf.htk hE.inf.hm), by simp [PySem.W.notFirst]⟩
  | none =>
    rw [e] at h
    cases e2 : tyD S d with
    | none => rw [e2] at h; cases h
    | some t =>
      refine ⟨.type t, tyD_ok0 s r e2, ?_⟩
      unfold PySem.W.notFirst
      rw [hE.sub t (tyD_blt e2)]
      simp
theorem rd_eqO {neg : Bool} (hE : EqF X.kw (He.ga X.kw c)) {st : St} {H : Hp} {Q : VK} (q : rd X.kw W (eEqO neg c g f1 f2) st H Q) : tOp (rEqO X.kw c g neg) (rd X.kw W f1) (rd X.kw W f2) st H Q := by
  refine Rdg.bind (R := VR X.kw) (k := fun e a S1 => bnd (f2 e S1) fun b S2 => kEqO neg c g a b S2) q fun L0 io0 H0 L io H1 e S d v fr rv q1 => ?_
  refine Fin.bind (R := VR X.kw) (k := fun b S2 => kEqO neg c g d b S2) fr q1 fun L2 io2 H2 S2 d2 v2 s2 fr2 r2 q2 => ?_
  clear q1 q
  have q := q2
  clear q2
  have r1 := rv.step s2 fr.st.sub
  unfold kEqO at q
  cases h1 : insOf S2 d with
  | none => rw [h1] at q; exact q.elim
  | some z =>
    obtain ⟨c', fs⟩ := z
    rw [h1] at q
    simp only at q
    split at q
    · rename_i hc
      obtain ⟨hc, hl⟩ := hc
      subst hc
      obtain ⟨p, dx, vs, rfl, e1⟩ := insOf_ty fr2.st (.inl r1) h1
      obtain ⟨t, t1, t2⟩ := rgt_ok hE fr2.st r2 hl
      refine ⟨p, dx, vs, t, rfl, e1, t1, t2, L2, io2, S2, [d, d2], fr2.st, .cons r1 (.cons r2 .nil), ?_⟩
      cases h2 : g S2 [d, d2] with
      | ok r S' =>
        rw [h2] at q
        cases r with
        | bl b =>
          intro v H' io' s sr r
          cases r
          exact ⟨b, rfl, q _ H' _ io' s sr (.bl _)⟩
        | _ => exact q.elim
      | ex c fs S' => rw [h2] at q; exact q.elim
      | no => rw [h2] at q; exact q.elim
    · exact q.elim
theorem qe_eqO (hE : EqF X.kw (He.ga X.kw c)) (F : FM X.prog X.w X.kw X.mg X.base k c "__eq__" [] g) (hr : RoomG (k + 1) X.A) (ha : QE X W a f1) (hb : QE X W b f2) (hm : behindInMarks .Eq b = false := by first | exact nomark _ | rfl) : QE X W (.Compare a [.Eq] [b] pos) (eEqO false c g f1 f2) :=
  pe_imp (pe_cmpR (op_eqO F hr) ha hb hm) fun _ _ _ q => rd_eqO hE q
theorem qt_eqO (hE : EqF X.kw (He.ga X.kw c)) (F : FM X.prog X.w X.kw X.mg X.base k c "__eq__" [] g) (hr : RoomG (k + 1) X.A) (ha : QE X W a f1) (hb : QE X W b f2) (hm : behindInMarks .Eq b = false := by first | exact nomark _ | rfl) : QT X W (.Compare a [.Eq] [b] pos) (tVal (eEqO false c g f1 f2)) :=
  pt_imp (pt_cmpR (op_eqO F hr) ha hb hm) fun st H Q q => by
    have z := rd_tval q
    exact (show tTest (tOp (rEqO X.kw c g false) (rd X.kw W f1) (rd X.kw W f2)) st H Q from rd_eqO hE z)
end
end DL
namespace DL
open PySem L2
def kLIx (fa : DE) (e : Env) (d : Dv) (S : Sto) : Res Dv := match d with
  | .lst l => bnd (fa e S) (tixE l)
  | _ => .no
def eLIx (f fa : DE) : DE := fun e S => bnd (f e S) (kLIx fa e)
section
variable (S : Sto) (e : Env) (d : Dv) (l l' : List Dv) (f f1 f2 fa : DE) (c : Str) (g : DF) (b neg : Bool)
@[simp] theorem ev_lix : eLIx f fa e S = bnd (f e S) (kLIx fa e) := rfl
@[simp] theorem ev_klix : kLIx fa e (.lst l) S = bnd (fa e S) (tixE l) := rfl
def kEO1 (neg : Bool) (c : Str) (g : DF) (f2 : DE) (e : Env) (a : Dv) (S : Sto) : Res Dv := bnd (f2 e S) fun b S2 => kEqO neg c g a b S2
@[simp] theorem ev_eqO : eEqO neg c g f1 f2 e S = bnd (f1 e S) (kEO1 neg c g f2 e) := rfl
@[simp] theorem ev_kEO1 : kEO1 neg c g f2 e d S = bnd (f2 e S) (kEqO neg c g d) := rfl
@[simp] theorem blR_ok : blR neg (.ok (.bl b) S) = .ok (.bl (if neg then !b else b)) S := rfl
end
end DL
namespace DL
open PySem L2
end DL
namespace DL
open PySem PySem.Spec PyProof.Rows L2
def oexOk (K : PySem.W.Frag) (C : Addr) : Bool := match K.lookup C with
  | some ⟨.type "type", _, .cls cd, sl⟩ => (match cd.mro, sl.toList with
    | .ref C' :: bm, [_, _, _, _, some (.builtin n), _] => C' == C && n == "ValueError.__new__" && !cd.hasDel && cd.hasDict && PySem.HandSPX.refsVE bm
    | _, _ => false)
  | _ => false
theorem oexOk_of {K : PySem.W.Frag} {C : Addr} (q : oexOk K C = true) : ∃ nm q N bs bm sn sub ab col dd k0 k1 k2 k3 k5, K.lookup C = some (excClassObj nm q C N bs bm true sn sub ab col dd k0 k1 k2 k3 k5 "ValueError.__new__") ∧ PySem.HandSPX.refsVE bm = true := by
  unfold oexOk at q
  split at q
  · rename_i dd cd sl ho
    split at q
    · rename_i C' bm k0 k1 k2 k3 n k5 hm hs
      simp only [Bool.and_eq_true, beq_iff_eq, Bool.not_eq_true'] at q
      obtain ⟨⟨⟨⟨rfl, rfl⟩, hdel⟩, hdc⟩, ht⟩ := q
      obtain ⟨nm, bs, mro, ns, qn, hd, sn, sub, ab, col, del⟩ := cd
      dsimp only at hm hdel hdc
      subst hm hdel hdc
      have hsl : sl = #[k0, k1, k2, k3, some (.builtin "ValueError.__new__"), k5] := by
        obtain ⟨l⟩ := sl
        simp only at hs
        rw [hs]
      subst hsl
      exact ⟨nm, qn, ns, bs, bm, sn, sub, ab, col, dd, k0, k1, k2, k3, k5, ho, ht⟩
    · cases q
  · cases q
/-- the facts of the class c: made, its fields stored and read, asked by isinstance -/
structure XcG (K : PySem.W.Frag) (C : Addr) (ns : List Str) : Prop where
  o : OexC K C
  x : XfC K C
  no : ∀ n ∈ ns, PySem.W.findIn K (.ref C) n = some none
  cl : (PySem.W.clsIn K C).isSome = true
  ha : PySem.W.findIn K (.ref C) "__class__" = some (some (.builtin "object.__class__"))
  hn : PySem.W.specialIn K (.builtin "object.__class__") "__get__" = some (some (.builtin "getset_descriptor.__get__"))
  ht : PySem.W.takesIn K (.builtin "object.__class__") = some true
  hm : PySem.W.mroIn K C (.type "object") = some true
structure XcF (K : PySem.W.Frag) (C : Addr) (f : Addr) (ns : List Str) : Prop extends XcG K C ns where
  i : PySem.W.findIn K (.ref C) "__init__" = some (some (.ref f))
  t : PySem.W.typeIn K (.ref f) = some (.type "function")
def xgOk (K : PySem.W.Frag) (C : Addr) (ns : List Str) : Bool := oexOk K C && (PySem.W.findIn K (.ref C) "__setattr__" == some (some (.builtin "object.__setattr__"))) && (PySem.W.subIn K (.ref C) (.type "BaseException") == some true) && (PySem.W.typeIn K (.ref C) == some (.type "type")) && PySem.W.keepIn K (.ref C) && xfB K C && (ns.all fun n => PySem.W.findIn K (.ref C) n == some none) && (PySem.W.clsIn K C).isSome &&
  (PySem.W.findIn K (.ref C) "__class__" == some (some (.builtin "object.__class__"))) && (PySem.W.specialIn K (.builtin "object.__class__") "__get__" == some (some (.builtin "getset_descriptor.__get__"))) && (PySem.W.takesIn K (.builtin "object.__class__") == some true) && (PySem.W.mroIn K C (.type "object") == some true)
theorem xgOk_of {K : PySem.W.Frag} {C : Addr} {ns : List Str} (h : xgOk K C ns = true) : XcG K C ns := by
  unfold xgOk at h
  obtain ⟨h, h12⟩ := He.ba h
  obtain ⟨h, h11⟩ := He.ba h
  obtain ⟨h, h10⟩ := He.ba h
  obtain ⟨h, h9⟩ := He.ba h
  obtain ⟨h, h8⟩ := He.ba h
  obtain ⟨h, h7⟩ := He.ba h
  obtain ⟨h, h6⟩ := He.ba h
  obtain ⟨h, h5⟩ := He.ba h
  obtain ⟨h, h4⟩ := He.ba h
  obtain ⟨h, h3⟩ := He.ba h
  obtain ⟨h1, h2⟩ := He.ba h
  exact ⟨⟨oexOk_of h1, beq_iff_eq.mp h2, beq_iff_eq.mp h3, beq_iff_eq.mp h4, h5⟩, xfB_ok h6, fun n hn => beq_iff_eq.mp (List.all_eq_true.mp h7 n hn), h8, beq_iff_eq.mp h9, beq_iff_eq.mp h10, beq_iff_eq.mp h11, beq_iff_eq.mp h12⟩
def xcOk (K : PySem.W.Frag) (C f : Addr) (ns : List Str) : Bool := xgOk K C ns && (PySem.W.findIn K (.ref C) "__init__" == some (some (.ref f))) && (PySem.W.typeIn K (.ref f) == some (.type "function"))
theorem xcOk_of {K : PySem.W.Frag} {C f : Addr} {ns : List Str} (h : xcOk K C f ns = true) : XcF K C f ns := by
  obtain ⟨h, h3⟩ := He.ba h
  obtain ⟨h1, h2⟩ := He.ba h
  exact { toXcG := xgOk_of h1, i := beq_iff_eq.mp h2, t := beq_iff_eq.mp h3 }
def xgB (c : Str) (ns : List Str) : Ft := .any fun K => xgOk K (He.ga K c) ns
theorem xg_f {K : PySem.W.Frag} {c : Str} {ns : List Str} (h : (xgB c ns).ok K = true) : XcG K (He.ga K c) ns := xgOk_of h
def xcB (c : Str) (ns : List Str) : Ft := .any fun K => xcOk K (He.ga K c) (He.ma K (He.ga K c) "__init__") ns
theorem xc_f {K : PySem.W.Frag} {c : Str} {ns : List Str} (h : (xcB c ns).ok K = true) : XcF K (He.ga K c) (He.ma K (He.ga K c) "__init__") ns := xcOk_of h
/-- the base class, whose __init__ is ValueError's -/
structure FeF (K : PySem.W.Frag) (C : Addr) : Prop where
  r : ClX.CRead K C (.type "type")
  i : PySem.W.findCls K (.ref C) (.type "type") "__init__" = some (.val (.builtin "ValueError.__init__"))
def veI (r : Option PySem.W.CFound) : Bool := match r with
  | some (.val (.builtin n)) => n == "ValueError.__init__"
  | _ => false
theorem veI_of {r : Option PySem.W.CFound} (h : veI r = true) : r = some (.val (.builtin "ValueError.__init__")) := by
  unfold veI at h
  split at h
  · rw [beq_iff_eq.mp h]
  · cases h
def feB (c : Str) : Ft := .any fun K => (readB c).ok K && veI (PySem.W.findCls K (.ref (He.ga K c)) (.type "type") "__init__")
theorem fe_f {K : PySem.W.Frag} {c : Str} (h : (feB c).ok K = true) : FeF K (He.ga K c) := by
  obtain ⟨h1, h2⟩ := He.ba (show ((readB c).ok K && veI (PySem.W.findCls K (.ref (He.ga K c)) (.type "type") "__init__")) = true from h)
  exact ⟨read_f h1, veI_of h2⟩
section
variable {X : Cx} {e : Expr} {es : List Expr} {ta : TA} {p1 p2 pos : Pos} {b : Str} {B : Addr}
theorem pe_feinit {pl : Sem Bool} (hg : Gl X b) (hm : X.mg b = some (.ref B)) (T : FeF X.kw B) (ha : PA X (e :: es) ta) (hdb : (b == ("__debug__" : Str)) = false := by decide)
    (hc : eval (.Call (.Attribute (.Name b p1) "__init__" p2) (e :: es) [] pos) X.env = (do
      let ov ← eval (.Name b p1) X.env
      standAt p2.atName
      let (f, first) ← holding [ov] (getMethod ov "__init__" pl)
      callWith pos f first (backTo pos (starEach (e :: es) X.env)) (backToKw pos (keywordEach [] X.env))) := by rfl)
    (he : starEach (e :: es) X.env = (false, eval e X.env) :: starEach es X.env := by rfl) (hpl : (backTo pos (starEach es X.env)).any (·.1) = false := by rfl) :
    PE X (.Call (.Attribute (.Name b p1) "__init__" p2) (e :: es) [] pos) (tVeI X.kw ta) := by
  refine ⟨fun pins s σ H Q I h => ?_⟩
  refine PySem.W.methodCall_KW (pl := pl) (ld_glob I hg hm ?_ hdb) hc
  refine PySem.W.method_cls I.kIn T.r.ga (PySem.W.cls_value I.kIn T.r.rd T.i (by decide +kernel) ?_)
  show wpAny _ _ (callWith pos (Value.builtin "ValueError.__init__") [] (backTo pos (starEach (e :: es) X.env)) []) _ _ _
  refine PyProof.Rows.callWith_method1 (thn (ha.run pos pins _ σ H _ (I.tok _) h) fun us s1 ⟨vs, H1, I1, r1, a, C, ws, ev, hl, T, ea, q⟩ => ?_) he hpl
  subst ev
  cases r1 with
  | @cons _ u0 _ ur ra rw' =>
    obtain rfl : u0 = Value.ref a := ra
    have hlen : ur.length ≤ sizeLine := by
      rw [← Paired.length rw', sizeLine_eq]
      omega
    exact oinit_ok T I1 ea hlen fun s' J => ⟨.non, H1, J, rfl, q⟩
end
/-- what __init__ does: the fields stand in the exception's new dict -/
def XiT (K : PySem.W.Frag) (ns : List Str) : TS := fun D σ H => ∃ (a C : Addr) (ws : List V), σ[0]? = some (some (.ref a)) ∧ ws.length = ns.length ∧ (∀ (i : Nat) (w : V), ws[i]? = some w → σ[i + 1]? = some (some w)) ∧ OexC K C ∧ (∀ n ∈ ns, PySem.W.findIn K (.ref C) n = some none) ∧ H a = some (exo a C none) ∧
  ∀ dx H2, H dx = none → dx ≠ a → H2 a = some (exo a C (some dx)) → H2 dx = some (exd dx (ns.zip ws).reverse) → (∀ b, b ≠ a → b ≠ dx → H2 b = H b) → D.nx σ H2
section
variable {X : Cx} {p1 p2 p3 p4 p5 p6 p7 p8 p9 p10 p11 p12 p13 p14 : Pos} {b se x1 x2 f1 f2 tx : Str} {B : Addr} {j : Nat}
theorem pss_xi1 {pl : Sem Bool} (hg : Gl X b) (hm : X.mg b = some (.ref B)) (T : FeF X.kw B) (h0 : X.N[0]? = some se := by rfl) (h1 : X.N[1]? = some x1 := by rfl)
    (v0 : Vis X.env.scope se := by first | exact Or.inl rfl | exact Or.inr (Or.inl rfl) | exact Or.inr (Or.inr rfl)) (v1 : Vis X.env.scope x1 := by first | exact Or.inl rfl | exact Or.inr (Or.inl rfl) | exact Or.inr (Or.inr rfl))
    (d0 : (se == ("__debug__" : Str)) = false := by decide) (d1 : (x1 == ("__debug__" : Str)) = false := by decide) (c0 : (se == ("__classdict__" : Str)) = false := by decide) (c1 : (x1 == ("__classdict__" : Str)) = false := by decide) (hdb : (b == ("__debug__" : Str)) = false := by decide)
    (hc : eval (.Call (.Attribute (.Name b p1) "__init__" p2) [.Name se p3, .Constant (.str tx) j p4] [] p5) X.env = (do
      let ov ← eval (.Name b p1) X.env
      standAt p2.atName
      let (f, first) ← holding [ov] (getMethod ov "__init__" pl)
      callWith p5 f first (backTo p5 (starEach [.Name se p3, .Constant (.str tx) j p4] X.env)) (backToKw p5 (keywordEach [] X.env))) := by rfl)
    (hs1 : swapsWith (.Call (.Attribute (.Name b p1) "__init__" p2) [.Name se p3, .Constant (.str tx) j p4] [] p5) none p6.line X.env = pure false := by rfl) (hs2 : swapsWith (.Name x1 p9) (some (.Attribute (.Name se p7) f1 p8)) p10.line X.env = pure false := by rfl) :
    PSs X [.Expr (.Call (.Attribute (.Name b p1) "__init__" p2) [.Name se p3, .Constant (.str tx) j p4] [] p5) p6, .Assign [.Attribute (.Name se p7) f1 p8] (.Name x1 p9) p10] (XiT X.kw [f1]) := by
  refine pss_imp (pss_cons (ps_expr (pe_feinit (pl := pl) hg hm T (pa_cons (pe_var h0 v0 d0 c0) (pa_cons pe_str pa_nil)) hdb hc) hs1) (pss_one (ps_ost (pe_var h0 v0 d0 c0) (pe_var h1 v1 d1 c1) hs2))) fun D σ H h => ?_
  obtain ⟨a, C, ws, e0, hl, hw, O, no, ea, q⟩ := h
  match ws, hl with
  | [w], _ =>
    have e1 := hw 0 w rfl
    refine ⟨.ref a, e0, a, C, [.str tx], rfl, Nat.le_of_ble_eq_true rfl, O, ea, ?_⟩
    refine ⟨w, e1, .ref a, e0, a, C, rfl, O, no f1 (List.mem_singleton.mpr rfl), .inl ⟨ea, fun dx hd hne => ?_⟩⟩
    exact q dx _ hd hne upd_same (by rw [upd_ne hne, upd_same]; rfl) fun b hb hbd => by rw [upd_ne hb, upd_ne hbd]
end
/-- what __init__ of an exception of the class at C promises -/
def spX (C : Addr) (ns : List Str) : Sp := fun vs H Q E => ∃ (a : Addr) (ws : List V), vs = .ref a :: ws ∧ ws.length = ns.length ∧ H a = some (exo a C none) ∧
  ∀ dx H2, H dx = none → dx ≠ a → H2 a = some (exo a C (some dx)) → H2 dx = some (exd dx (ns.zip ws).reverse) → (∀ b, b ≠ a → b ≠ dx → H2 b = H b) → Q .non H2
/-- the exception class c, its fields ns in the order of __init__'s parameters; g says whether there is room -/
def FX (P : Program) (w : World) (K : Kw) (mg : Str → Option Value) (base : Heap) (k : Nat) (c : Str) (ns : List Str) (g : DF) : Prop :=
  (∀ S l, g S l = .no) ∨ ∃ (fd : FuncData) (ps : List Str), FnG P w K mg base k (He.ma K (He.ga K c) "__init__") fd ps (spX (He.ga K c) ns) ∧ mg c = some (.ref (He.ga K c)) ∧ XcF K (He.ga K c) (He.ma K (He.ga K c) "__init__") ns ∧ Binds K fd ps []
def gX : DF := fun S _ => .ok .non S
theorem fx_no {P : Program} {K : Kw} {mg : Str → Option Value} {base : Heap} {k : Nat} {c : Str} {ns : List Str} : FX P K.w K mg base k c ns gNo := .inl fun _ _ => rfl
theorem fx_mk {P : Program} {w : World} {K : Kw} {mg : Str → Option Value} {base : Heap} {k : Nat} {c qual : Str} {ns ps N : List Str} {st : Stmt} (F : ∃ fd, FunD K "__init__" qual (defArgs st) (defBody st) (defScope st) [] [] (He.ma K (He.ga K c) "__init__") fd)
    (hm : mg c = some (.ref (He.ga K c))) (T : XcF K (He.ga K c) (He.ma K (He.ga K c) "__init__") ns) (Sc : FnScope N ps (defScope st)) (hbi : BindN "__init__" qual st ps) (hl : ps.length = ns.length + 1)
    (hb : ∀ (cdv : Value) (A : Around) (up : List PySem.Env) (s : Shared) (H : Hp) (E : XK), PSs (cxOf (L2.CX P K.w) P K.w K mg base N qual (defScope st) (He.ma K (He.ga K c) "__init__") cdv A up s H E) (defBody st) (XiT K ns)) : FX P K.w K mg base (k + 2) c ns gX := by
  obtain ⟨fd, F⟩ := F
  refine .inr ⟨fd, ps, ?_, hm, T, F.bindsN hbi⟩
  obtain ⟨oc, od, dV, kV, doc, pm, an, cdv, ct, osl, rfl, lk, hcd, _, _⟩ := F.ex
  refine FnG.mono (j := 0 + 1) (fng_of lk hcd Sc (fun vs H Q E h => ?_) fun A outer s H vs Q E hr h => ⟨_, hb cdv A outer s H E, ?_⟩) (by omega)
  · obtain ⟨a, ws, rfl, h1, _⟩ := h
    rw [List.length_cons, h1, hl]
  · obtain ⟨a, ws, rfl, h1, ea, q⟩ := h
    refine ⟨a, He.ga K c, ws, rfl, h1, fun i w hw => ?_, T.o, T.no, ea, fun dx H2 k1 k2 k3 k4 k5 => q dx H2 k1 k2 k3 k4 k5⟩
    show ((V.ref a :: ws).map some ++ _)[i + 1]? = _
    rw [List.map_cons, List.cons_append, List.getElem?_cons_succ, List.getElem?_append_left (by rw [List.length_map]; exact (List.getElem?_eq_some_iff.mp hw).1), List.getElem?_map, hw]
    rfl
section
variable {X : Cx} {e : Expr} {es : List Expr} {ta : TA} {p pos : Pos}
/-- C(e, ..), as pmk_oex, its promise at calls without guards -/
theorem pmk_oexG {x : Str} {C fI : Addr} {k : Nat} {fd : FuncData} {ps : List Str} {sp : Sp} (T : OexC X.kw C) (iC : PySem.W.findIn X.kw (.ref C) "__init__" = some (some (.ref fI))) (tI : PySem.W.typeIn X.kw (.ref fI) = some (.type "function"))
    (F1 : FnG X.prog X.w X.kw X.mg X.base k fI fd ps sp) (hr : RoomG (k + 1) X.A) (hb : Binds X.kw fd ps []) (hg : Gl X x) (hm : X.mg x = some (.ref C)) (ha : PA X (e :: es) ta)
    (hdb : (x == ("__debug__" : Str)) = false := by decide) (he : starEach (e :: es) X.env = (false, eval e X.env) :: starEach es X.env := by rfl) (hpl : (backTo pos (starEach es X.env)).any (·.1) = false := by rfl) :
    PMk X (.Call (.Name x p) (e :: es) [] pos) (tMkO C sp [] ta) := by
  intro pins s σ H Q I h
  obtain ⟨nm, q, N, bs, bm, sn, sub, ab, col, dd, k0, k1, k2, k3, k5, hC, hbm⟩ := T.cls
  refine wpAny_Call_Name_kw (ld_glob I hg hm ?_ hdb)
  refine PySem.W.callWith_K (h₀ := X.base) I.ok.mod.kin T.kC (thn (ha.run pos pins s σ H _ I h) fun us s1 ⟨vs, H1, I1, r1, hz, q1⟩ => ⟨I1.kIn, ?_⟩) he hpl
  show wpAny _ _ (call (.ref C) us) _ _ _
  obtain ⟨hp, g, dr, tk, os⟩ := s1
  have hsz : hp.objs.size ≤ hp.objs.size + 1 := Nat.le_succ _
  have hn : H1 (hp.objs.size + 1) = none := I1.hok.fresh hsz
  have hq := q1 (hp.objs.size + 1) hn
  have kk : ∀ b o, hp.get? b = some o → ((hp.push (PySem.W.kdv_tup us)).push (PySem.HandSPX.excO C hp.objs.size)).get? b = some o := fun b o e => Heap.get?_push_of_some _ (Heap.get?_push_of_some _ e)
  have hget : ((hp.push (PySem.W.kdv_tup us)).push (PySem.HandSPX.excO C hp.objs.size)).get? (hp.objs.size + 1) = some (PySem.HandSPX.excO C hp.objs.size) := by heap_get
  have I2 : Inv X pins σ (upd H1 (hp.objs.size + 1) (exo (hp.objs.size + 1) C none)) ⟨(hp.push (PySem.W.kdv_tup us)).push (PySem.HandSPX.excO C hp.objs.size), g, dr, tk, os⟩ :=
    I1.laid (t' := tk) (a := hp.objs.size + 1) (o := exo (hp.objs.size + 1) C none) (h' := (hp.push (PySem.W.kdv_tup us)).push (PySem.HandSPX.excO C hp.objs.size)) kk hsz (exo_ok hget)
  have r2 : Vals (V.ref (hp.objs.size + 1) :: (vs ++ [])) (Value.ref (hp.objs.size + 1) :: (us ++ [])) := .cons rfl (r1.append .nil)
  have hl : (Value.ref (hp.objs.size + 1) :: us ++ []).length = ps.length := by
    have e := r2.length
    rw [F1.len _ _ _ _ hq] at e
    exact e.symm
  have hus : us.length ≤ sizeLine := by
    rw [← Paired.length r1, sizeLine_eq]
    omega
  refine wpAny_call (PySem.HandSPX.call_own F.excBase_ValueError (fun Y => PySem.HandSPX.refsVE_contains Y bm hbm) (I1.kIn _ _ hC) (PySem.W.looks_findIn I1.kIn iC) (fun self => PySem.W.bind_fn I1.kIn self tI) hus
    (codeAny_mono (F1.run _ X.stack _ _ ⟨Value.ref (hp.objs.size + 1) :: us, []⟩ (Value.ref (hp.objs.size + 1) :: (us ++ [])) _ _ (fun _ _ _ => False) (hr.make C us []) (I2.env0.make C us []) (show BindsTo _ fd _ (ps.zip (Value.ref (hp.objs.size + 1) :: (us ++ []))) from hb _ (Value.ref (hp.objs.size + 1) :: us) I2.kIn hl) r2 hq) fun r s' hq' => ?_))
  cases r with
  | error er => exact (takesW0 (X := X)) er s' (XE.of_call I2 (fun _ _ _ z => z) hq')
  | ok fl =>
    cases fl with
    | ret u =>
      obtain ⟨v, H2, os2, bare2, un2, hok2, rv, ev, d, fs, ea, ed, hd1, q2⟩ := hq'
      subst ev
      obtain ⟨h2, g2, d2, t2, os'⟩ := s'
      exact ⟨rv, mk_end (raises_own T.exC T.tyC) I1 hsz kk un2 hok2 os2 bare2 ea ed hd1 q2⟩
    | next => exact False.elim hq'
    | brk => exact False.elim hq'
    | cont => exact False.elim hq'
end
def kRaise (g : DF) (c : Str) (ns : List Str) (e : Env) (l : List Dv) (S : Sto) : Out := match g S l with
  | .ok _ _ => if l.length = ns.length then .ex c (ns.zip l).reverse e S else .no
  | _ => .no
def sRaise (g : DF) (c : Str) (ns : List Str) (fa : DA) : DS := fun e S => match fa e S with
  | .ok l S1 => kRaise g c ns e l S1
  | _ => .no
theorem pairR_zip {K : Kw} {L : Addr → Prop} {io : List Addr} {H : Hp} : ∀ (ns : List Str) {vs : List V} {l : List Dv}, VRs K L io H vs l → PairR (VR K L io H) (ns.zip vs) (ns.zip l)
  | [], _, _, _ => .nil
  | _ :: _, _, _, .nil => .nil
  | n :: ns, _, _, .cons r t => .cons ⟨rfl, r⟩ (pairR_zip ns t)
theorem Paired.snoc {α β : Type} {R : α → β → Prop} {x : α} {y : β} (h : R x y) : ∀ {l : List α} {m : List β}, Paired R l m → Paired R (l ++ [x]) (m ++ [y])
  | _, _, .nil => .cons h .nil
  | _, _, .cons r t => .cons r (Paired.snoc h t)
theorem Paired.rev {α β : Type} {R : α → β → Prop} : ∀ {l : List α} {m : List β}, Paired R l m → Paired R l.reverse m.reverse
  | _, _, .nil => .nil
  | _, _, .cons r t => by
    rw [List.reverse_cons, List.reverse_cons]
    exact Paired.snoc r (Paired.rev t)
section
variable {X : Cx} {W : WX} {k : Nat} {c : Str} {ns : List Str} {g : DF} {e : Expr} {es : List Expr} {fa : DA} {p pos pos' : Pos}
theorem qs_raise (F : FX X.prog X.w X.kw X.mg X.base k c ns g) (hr : RoomG (k + 1) X.A) (tk : Takes X W) (hcalm : X.calm = true) (hns : ns.length ≤ 1000) (ha : QA X W (e :: es) fa) (hg : Gl X c := by rfl)
    (hdb : (c == ("__debug__" : Str)) = false := by decide) (he : starEach (e :: es) X.env = (false, eval e X.env) :: starEach es X.env := by rfl) (hpl : (backTo pos (starEach es X.env)).any (·.1) = false := by rfl) :
    QS X W (.Raise (some (.Call (.Name c p) (e :: es) [] pos)) none pos') (sRaise g c ns fa) := by
  rcases F with F | ⟨fd, ps, F, hm, T, hb⟩
  · refine ⟨fun pins s σ H D I h => ?_⟩
    obtain ⟨L0, io0, H0, L, io, ev, S, fr, h⟩ := h
    exfalso
    unfold sRaise at h
    cases hf : fa ev S with
    | ok l S' => rw [hf] at h; simp only [kRaise, F] at h; exact h
    | ex c' fs S' => rw [hf] at h; exact h
    | no => rw [hf] at h; exact h
  · refine ps_imp (ps_raise hcalm tk (pmk_oexG T.o T.i T.t F hr hb hg hm ha hdb he hpl)) fun D σ H h => ?_
    have h2 : rds X.kw W (sBind fa (kRaise g c ns)) D σ H := by
      obtain ⟨L0, io0, H0, L, io, ev, S, fr, h⟩ := h
      refine ⟨L0, io0, H0, L, io, ev, S, fr, ?_⟩
      unfold sRaise at h
      unfold sBind
      cases hf : fa ev S with
      | ok l S' => rw [hf] at h; exact h
      | _ => rw [hf] at h; exact h.elim
    refine rds_bind (R := VRs X.kw) (k := kRaise g c ns) h2 fun L0 io0 H0 L io H1 ev S l vs fr rv q => ?_
    unfold kRaise at q
    cases hgg : g S l with
    | ok d S' =>
      rw [hgg] at q
      simp only at q
      split at q
      · rename_i hlen
        have hvl : vs.length = ns.length := by rw [rv.len, hlen]
        refine ⟨by omega, fun a hna => ?_⟩
        rw [List.append_nil]
        refine ⟨a, vs, rfl, hvl, upd_same, fun dx H2 k1 k2 k3 k4 k5 => ⟨rfl, dx, (ns.zip vs).reverse, k3, k4, ?_, ?_⟩⟩
        · rw [upd_ne k2] at k1; exact k1
        · have hd : H1 dx = none := by rw [upd_ne k2] at k1; exact k1
          have eH : upd (del H2 a) dx (.xd (ns.zip vs).reverse) = upd H1 dx (.xd (ns.zip vs).reverse) := by
            funext b
            by_cases hb1 : b = dx
            · rw [hb1, upd_same, upd_same]
            · rw [upd_ne hb1, upd_ne hb1]
              by_cases hb2 : b = a
              · rw [hb2, del_same, hna]
              · rw [del_ne hb2, k5 b hb2 hb1, upd_ne hb2]
          rw [eH]
          have s := Stp.alloc (L := L) (io := io) (o := HO.xd (ns.zip vs).reverse) hd
          exact q (some dx) σ _ L io (s.stw fr.st.sub) (fr.step s (fr.st.alloc hd)) (.inr ⟨dx, _, rfl, fr.st.fresh hd, upd_same, Paired.rev ((pairR_zip ns rv).mono fun v d r => r.step s fr.st.sub)⟩)
      · exact q.elim
    | _ => rw [hgg] at q; exact q.elim
end
end DL
namespace DL
open PySem PySem.Spec PyProof.Rows L2
abbrev HR (α : Type) := Str → List (Str × Dv) → Env → Sto → Res α
theorem ExR.step {K : Kw} {L L' : Addr → Prop} {io io' : List Addr} {H H' : Hp} {x : Option Addr} {fs : List (Str × Dv)} (h : ExR K L io H x fs) (s : Stp L io H L' io' H') (sub : ∀ x ∈ io, L x) : ExR K L' io' H' x fs := by
  rcases h with h | ⟨a, vs, h1, h2, h3, h4⟩
  · exact .inl h
  obtain ⟨k1, k2⟩ := (s.on sub).2 a _ h3 h2
  exact .inr ⟨a, vs, h1, k2, k1, h4.mono fun v d r => r.step s sub⟩
def RdH {α β : Type} (K : Kw) (R : (Addr → Prop) → List Addr → Hp → β → α → Prop) (i : Nat) (a : Addr) (cls : Value) (d : Option Addr) (h : HR α) : L2.St → Hp → (β → Hp → Prop) → Prop := fun σ H Q =>
  ∃ (c : Str) (fs : List (Str × Dv)) (L0 : Addr → Prop) (io0 : List Addr) (H0 : Hp) (L : Addr → Prop) (io : List Addr) (e : Env) (S : Sto), cls = .ref (He.ga K c) ∧ FR K L0 io0 H0 L io H σ e S ∧ σ[i]? = some (some (.ref a)) ∧ ExR K L io H d fs ∧ Fin K (fun _ _ _ _ => False) R σ L io H Q (h c fs e S)
theorem RdH.bind {α β α' β' : Type} {K : Kw} {R : (Addr → Prop) → List Addr → Hp → β → α → Prop} {R' : (Addr → Prop) → List Addr → Hp → β' → α' → Prop} {i : Nat} {a : Addr} {cls : Value} {d : Option Addr} {h : HR α} {k : Str → List (Str × Dv) → Env → α → Sto → Res α'} {σ : L2.St} {H : Hp} {Q : β' → Hp → Prop} {P : β → Hp → Prop}
    (q : RdH K R' i a cls d (fun c fs e S => bnd (h c fs e S) (k c fs e)) σ H Q)
    (n : ∀ (c : Str) (fs : List (Str × Dv)) (L0 : Addr → Prop) (io0 : List Addr) (H0 : Hp) (L : Addr → Prop) (io : List Addr) (H1 : Hp) (e : Env) (S : Sto) (x : α) (v : β), cls = .ref (He.ga K c) → FR K L0 io0 H0 L io H1 σ e S → σ[i]? = some (some (.ref a)) → ExR K L io H1 d fs → R L io H1 v x → Fin K (fun _ _ _ _ => False) R' σ L io H1 Q (k c fs e x S) → P v H1) : RdH K R i a cls d h σ H P := by
  obtain ⟨c, fs, L0, io0, H0, L, io, e, S, hc, fr, si, ex, q0⟩ := q
  have q : Fin K (fun _ _ _ _ => False) R' σ L io H Q (bnd (h c fs e S) (k c fs e)) := q0
  refine ⟨c, fs, L0, io0, H0, L, io, e, S, hc, fr, si, ex, ?_⟩
  cases hh : h c fs e S with
  | ok x S1 =>
    rw [hh] at q
    intro v H1 L1 io1 s1 sr1 r1
    exact n c fs L0 io0 H0 L1 io1 H1 e S1 x v hc (fr.step s1 sr1) si (ex.step s1 fr.st.sub) r1 (Fin.later q s1 fr.st.sub)
  | ex c' fs' S1 => rw [hh] at q; exact q
  | no => rw [hh] at q; exact q
def QHe (X : Cx) (i : Nat) (e : Expr) (h : HR Dv) : Prop := ∀ (a : Addr) (oe : Obj) (cls : Value) (d : Option Addr) (pn : List (Addr × Obj)), Zc cls d oe → (∃ vs, oe.data = .fields vs) → PE (X.suite a ((a, oe) :: pn)) e (RdH X.kw (VR X.kw) i a cls d h)
def QHa (X : Cx) (i : Nat) (es : List Expr) (h : HR (List Dv)) : Prop := ∀ (a : Addr) (oe : Obj) (cls : Value) (d : Option Addr) (pn : List (Addr × Obj)), Zc cls d oe → (∃ vs, oe.data = .fields vs) → PA (X.suite a ((a, oe) :: pn)) es (RdH X.kw (VRs X.kw) i a cls d h)
section
variable {X : Cx} {i : Nat} {e a b c : Expr} {es : List Expr} {pos : Pos} {h h1 h2 : HR Dv} {ha : HR (List Dv)} {ht : HR Bool}
theorem qh_emb {f : DE} (H : ∀ (a : Addr) (oe : Obj) (pn : List (Addr × Obj)), QE (X.suite a ((a, oe) :: pn)) (fun _ _ _ _ => False) e f) : QHe X i e (fun _ _ => f) := fun a oe cls d pn z fld => pe_imp (H a oe pn) fun g H Q q => by
  obtain ⟨c, fs, L0, io0, H0, L, io, e, S, hc, fr, si, ex, q⟩ := q
  exact ⟨L0, io0, H0, L, io, e, S, fr, q⟩
def hNil : HR (List Dv) := fun _ _ _ S => .ok [] S
def hCons (h : HR Dv) (ha : HR (List Dv)) : HR (List Dv) := fun c fs e S => bnd (h c fs e S) fun d S1 => bnd (ha c fs e S1) fun l S2 => .ok (d :: l) S2
theorem qha_nil : QHa X i [] hNil := fun a oe cls d pn z fld => pa_imp pa_nil fun g H Q q => by
  obtain ⟨c, fs, L0, io0, H0, L, io, e, S, hc, fr, si, ex, q⟩ := q
  exact q [] H L io (Stp.refl ..) fr.st .nil
theorem qha_cons (p1 : QHe X i e h) (p2 : QHa X i es ha) (hs : ∀ (a : Addr) (oe : Obj) (pn : List (Addr × Obj)), starEach (e :: es) (X.suite a ((a, oe) :: pn)).env = (false, eval e (X.suite a ((a, oe) :: pn)).env) :: starEach es (X.suite a ((a, oe) :: pn)).env := by intro _ _ _; rfl) : QHa X i (e :: es) (hCons h ha) := fun a oe cls d pn z fld => by
  refine pa_imp (pa_cons (p1 a oe cls d pn z fld) (p2 a oe cls d pn z fld) (hs a oe pn)) fun g H Q q => ?_
  refine RdH.bind (R := VR X.kw) (R' := VRs X.kw) (k := fun c fs e d S1 => bnd (ha c fs e S1) fun l S2 => .ok (d :: l) S2) q fun c fs L0 io0 H0 L io H1 e S x v hc fr si ex r q1 => ?_
  refine ⟨c, fs, L0, io0, H0, L, io, e, S, hc, fr, si, ex, ?_⟩
  cases hh : ha c fs e S with
  | ok l S1 =>
    rw [hh] at q1
    intro vs H2 L2' io2 s2 sr2 r2
    exact q1 (v :: vs) H2 L2' io2 s2 sr2 (.cons (r.step s2 fr.st.sub) r2)
  | ex c' fs' S1 => rw [hh] at q1; exact q1
  | no => rw [hh] at q1; exact q1
def hTup (ha : HR (List Dv)) : HR Dv := fun c fs e S => bnd (ha c fs e S) tupR
theorem qh_tup {x1} (p : QHa X i es ha) : QHe X i (.Tuple es x1 pos) (hTup ha) := fun a oe cls d pn z fld => pe_imp (pe_tup (p a oe cls d pn z fld)) fun g H Q q => by
  refine RdH.bind (R := VRs X.kw) (R' := VR X.kw) (k := fun _ _ _ => tupR) q fun c fs L0 io0 H0 L io H1 e S x v hc fr si ex r q1 => ?_
  unfold tupR at q1
  split at q1
  · rename_i hl
    exact ⟨by rw [r.len]; exact hl, fun p hp => q1 _ _ L io (Stp.alloc hp) (fr.st.alloc hp) (VR.newT fr.st hp r)⟩
  · exact q1.elim
/-- the exception's field f; tab: the classes and their fields -/
def hFld (tab : List (Str × List Str)) (f : Str) : HR Dv := fun c fs _ S => match tab.lookup c with
  | some ns => if ns.contains f then (match fs.lookup f with
    | some d => .ok d S
    | none => .no) else .no
  | none => .no
/-- the classes' facts -/
def XcT (K : PySem.W.Frag) (tab : List (Str × List Str)) : Prop := ∀ c ns, tab.lookup c = some ns → XcG K (He.ga K c) ns
theorem pairR_look {K : Kw} {L : Addr → Prop} {io : List Addr} {H : Hp} {f : Str} {d : Dv} : ∀ {vs : List (Str × V)} {fs : List (Str × Dv)}, PairR (VR K L io H) vs fs → fs.lookup f = some d → ∃ v, vs.lookup f = some v ∧ VR K L io H v d
  | _, _, .nil, h => by simp at h
  | (n, v) :: vs, (m, d') :: fs, .cons r t, h => by
    have e : n = m := r.1
    subst e
    rw [List.lookup_cons] at h ⊢
    cases hb : f == n with
    | true => rw [hb] at h; cases h; exact ⟨v, rfl, r.2⟩
    | false => rw [hb] at h; exact pairR_look t h
theorem qh_fld {tab : List (Str × List Str)} {n f : Str} {p1 : Pos} (T : XcT X.kw tab) (hN : X.N[i]? = some n := by rfl) (hv : Vis X.env.scope n := by first | exact Or.inl rfl | exact Or.inr (Or.inl rfl) | exact Or.inr (Or.inr rfl)) (hd : (n == ("__debug__" : Str)) = false := by decide)
    (hcd : (n == ("__classdict__" : Str)) = false := by decide) (hb : attributeBase (.Name n p1) f X.env (eval (.Name n p1) X.env) = eval (.Name n p1) X.env := by rfl) : QHe X i (.Attribute (.Name n p1) f pos) (hFld tab f) := fun a oe cls d pn z fld => by
  refine ⟨fun pins s σ H Q I q => ?_⟩
  obtain ⟨c, fs, L0, io0, H0, L, io, e, S, hc, fr, si, ex, q⟩ := q
  unfold hFld at q
  cases h1 : tab.lookup c with
  | none => rw [h1] at q; exact q.elim
  | some ns =>
    rw [h1] at q
    simp only at q
    split at q
    · rename_i hf
      have hf' : f ∈ ns := by simpa using hf
      cases h2 : fs.lookup f with
      | none => rw [h2] at q; exact q.elim
      | some dv =>
        rw [h2] at q
        have F := T c ns h1
        rcases ex with ⟨_, rfl⟩ | ⟨dd, vs, e1, e2, e3, e4⟩
        · simp at h2
        obtain ⟨v, l1, l2⟩ := pairR_look e4 h2
        exact (pe_xf (X := X) F.x (F.no f hf') z fld (pe_var (X := X.suite a ((a, oe) :: pn)) hN hv hd hcd) hb).run pins s σ H Q I ⟨.ref a, si, rfl, hc, dd, vs, v, e1, e3, l1, q v H L io (Stp.refl ..) fr.st l2⟩
    · exact q.elim
end
def TsH (K : Kw) (i : Nat) (h : HR Dv) (a : Addr) (cls : Value) (d : Option Addr) : TS := fun D σ H =>
  ∃ (c : Str) (fs : List (Str × Dv)) (L0 : Addr → Prop) (io0 : List Addr) (H0 : Hp) (L : Addr → Prop) (io : List Addr) (e : Env) (S : Sto), cls = .ref (He.ga K c) ∧ FR K L0 io0 H0 L io H σ e S ∧ σ[i]? = some (some (.ref a)) ∧ ExR K L io H d fs ∧
    match h c fs e S with
    | .ok x S' => ∀ (v : V) (H' : Hp) (L' : Addr → Prop) (io' : List Addr), SR K L' io' H' S' → Stp L0 io0 H0 L' io' H' → VR K L' io' H' v x → D.rt v H'
    | _ => False
def QHs (X : Cx) (i : Nat) (sts : List Stmt) (h : HR Dv) : Prop := ∀ (a : Addr) (oe : Obj) (cls : Value) (d : Option Addr) (pn : List (Addr × Obj)), Zc cls d oe → (∃ vs, oe.data = .fields vs) → PSs (X.suite a ((a, oe) :: pn)) sts (TsH X.kw i h a cls d)
section
variable {X : Cx} {i : Nat} {e c : Expr} {sts : List Stmt} {pos pos2 : Pos} {h h1 h2 : HR Dv} {ht : HR Bool}
theorem tsH_ret {K : Kw} {h : HR Dv} {a : Addr} {cls : Value} {d : Option Addr} {D : Ends} {σ : L2.St} {H : Hp} (q : TsH K i h a cls d D σ H) : RdH K (VR K) i a cls d h σ H D.rt := by
  obtain ⟨c, fs, L0, io0, H0, L, io, e, S, hc, fr, si, ex, q⟩ := q
  refine ⟨c, fs, L0, io0, H0, L, io, e, S, hc, fr, si, ex, ?_⟩
  cases hh : h c fs e S with
  | ok x S1 =>
    rw [hh] at q
    intro v H1 L1 io1 s1 sr1 r1
    exact q v H1 L1 io1 sr1 (fr.en.trans s1 fr.sub0) r1
  | ex c' fs' S1 => rw [hh] at q; exact q.elim
  | no => rw [hh] at q; exact q
theorem qhs_ret (p : QHe X i e h) : QHs X i [.Return (some e) pos] h := fun a oe cls d pn z fld => pss_imp (pss_one (ps_ret (p a oe cls d pn z fld))) fun D σ H q => tsH_ret q
end
def sTryR (i : Nat) (sub : List (Str × Bool)) (body : DS) (h : HR Dv) : DS := fun e S => match body e S with
  | .ex c fs e' S' => (match sub.lookup c with
    | some true => if i < e'.length then (match h c fs (e'.set i .no) S' with
      | .ok d S2 => .rt d S2
      | _ => .no) else .no
    | some false => .ex c fs e' S'
    | none => .no)
  | o => o
/-- which classes the clause takes -/
def ExT (K : PySem.W.Frag) (u : Value) (sub : List (Str × Bool)) : Prop := ∀ c b, sub.lookup c = some b → PySem.W.exmOne K (.ref (He.ga K c)) u = some b
section
variable {X : Cx} {W : WX} {x n : Str} {u : Value} {i : Nat} {body suite : List Stmt} {b₀ : Stmt} {np pos pos' : Pos} {fb : DS} {h : HR Dv} {sub : List (Str × Bool)}
theorem qs_tryR (hN : X.N.Nodup) (i : Nat) (hc : Names X x u) (hx : ExT X.kw u sub) (tk : Takes X W)
    (hb : ∀ (W' : WX) (pn : List (Addr × Obj)) (xe : Value → Shared → Prop), Takes (X.tr pn xe) W' → PassesOwn (model X.prog X.w) X.A X.env xe → QSs (X.tr pn xe) W' body fb) (hsu : QHs X i (b₀ :: suite) h)
    (hi : X.N[i]? = some n := by rfl) (hs : X.stack = X.env :: X.outer := by rfl) (hf : X.env.frame = some X.env.locals := by rfl) (hln : X.env.kindOf n = some .local := by rfl) :
    QS X W (.Try body [.ExceptHandler (some (.Name x np)) (some n) (b₀ :: suite) pos'] [] [] pos) (sTryR i sub fb h) := by
  refine ps_imp (ps_try_as (tb := fun W' => rds X.kw W' fb) (ts := TsH X.kw i h) hs hf hN hi hln hc tk hb hsu) fun D σ H q => ?_
  obtain ⟨L0, io0, H0, L, io, e, S, fr, q⟩ := q
  refine ⟨L0, io0, H0, L, io, e, S, fr, ?_⟩
  unfold sTryR at q
  cases hh : fb e S with
  | nx e' S' => rw [hh] at q; exact q
  | bk e' S' => rw [hh] at q; exact q
  | ct e' S' => rw [hh] at q; exact q
  | rt d S' => rw [hh] at q; exact q
  | no => rw [hh] at q; exact q
  | ex c fs e' S' =>
    rw [hh] at q
    simp only at q
    intro xa σ' H' L' io' sw fr' ex
    cases hl : sub.lookup c with
    | none => rw [hl] at q; exact q.elim
    | some b =>
      rw [hl] at q
      refine ⟨b, hx c b hl, fun hb1 a na => ?_, fun hb1 => ?_⟩
      · subst hb1
        simp only at q
        have hil : i < e'.length := by
          by_cases z : i < e'.length
          · exact z
          · rw [if_neg z] at q; exact q.elim
        rw [if_pos hil] at q
        refine ⟨c, fs, L0, io0, H0, L', io', e'.set i .no, S', rfl, fr'.setN i _, ?_, ex, ?_⟩
        · have hlen : i < σ'.length := by rw [fr'.len]; exact hil
          rw [List.getElem?_set, if_pos rfl, if_pos hlen]
        · cases h2 : h c fs (e'.set i .no) S' with
          | ok d S2 => rw [h2] at q; exact fun v H2 L2' io2 sr s r => q v H2 L2' io2 sr s r
          | ex c' fs' S2 => rw [h2] at q; exact q.elim
          | no => rw [h2] at q; exact q.elim
      · subst hb1
        exact q xa σ' H' L' io' sw fr' ex
end
end DL
namespace DL
open PySem L2
theorem mem_lookupA {α : Type} {k : Str} {d : α} : ∀ {l : List (Str × α)}, l.lookup k = some d → (k, d) ∈ l
  | [], h => by simp at h
  | (k', d') :: l, h => by
    rw [List.lookup_cons] at h
    cases e : k == k' with
    | true =>
      rw [e] at h
      cases h
      rw [beq_iff_eq.mp e]
      exact List.mem_cons_self
    | false => rw [e] at h; exact List.mem_cons_of_mem _ (mem_lookupA h)
def xtB (tab : List (Str × List Str)) : Ft := .any fun K => tab.all fun q => (xgB q.1 q.2).ok K
theorem xt_f {K : PySem.W.Frag} {tab : List (Str × List Str)} (h : (xtB tab).ok K = true) : XcT K tab := fun c ns hl => xg_f (List.all_eq_true.mp (show (tab.all fun q => (xgB q.1 q.2).ok K) = true from h) (c, ns) (mem_lookupA hl))
def extB (x : Str) (sub : List (Str × Bool)) : Ft := .any fun K => sub.all fun q => PySem.W.exmOne K (.ref (He.ga K q.1)) (.ref (He.ga K x)) == some q.2
theorem ext_f {K : PySem.W.Frag} {x : Str} {sub : List (Str × Bool)} (h : (extB x sub).ok K = true) : ExT K (.ref (He.ga K x)) sub := fun c b hl => beq_iff_eq.mp (List.all_eq_true.mp (show (sub.all fun q => PySem.W.exmOne K (.ref (He.ga K q.1)) (.ref (He.ga K x)) == some q.2) = true from h) (c, b) (mem_lookupA hl))
def powD : Dv → Dv → Option Dv := iop fun i j => if 0 ≤ j ∧ j ≤ 1000000 ∧ i.natAbs < 2 ^ 64 then some (.int (i ^ j.toNat)) else none
theorem qe_pow {X : Cx} {W : WX} {pos : Pos} {a b : Expr} {f1 f2 : DE} (ha : QX X W a f1) (hb : QX X W b f2) : QE X W (.BinOp a .Pow b pos) (eBin (pu2 powD) f1 f2) := qe_op op_pow (ops_int fun i j d e => by
  split at e
  · rename_i h; cases e; exact ⟨h, fun _ _ _ => .int _⟩
  · cases e) ha hb
section
variable (S S' : Sto) (e e' : Env) (d : Dv) (l : List Dv) (c f : Str) (fs : List (Str × Dv)) (ns : List Str) (fa : DA) (g : DF) (i : Nat) (b : Bool) (body : DS) (h : HR Dv) (sub : List (Str × Bool))
def kRs (g : DF) (c : Str) (ns : List Str) (e : Env) : Res (List Dv) → Out
  | .ok l S1 => kRaise g c ns e l S1
  | _ => .no
@[simp] theorem ev_raise : sRaise g c ns fa e S = kRs g c ns e (fa e S) := by unfold sRaise kRs; cases fa e S <;> rfl
@[simp] theorem kRs_ok : kRs g c ns e (.ok l S) = kRaise g c ns e l S := rfl
def kTry (i : Nat) (sub : List (Str × Bool)) (h : HR Dv) : Out → Out
  | .ex c fs e' S' => (match sub.lookup c with
    | some true => if i < e'.length then (match h c fs (e'.set i .no) S' with
      | .ok d S2 => .rt d S2
      | _ => .no) else .no
    | some false => .ex c fs e' S'
    | none => .no)
  | o => o
@[simp] theorem ev_tryR : sTryR i sub body h e S = kTry i sub h (body e S) := by unfold sTryR kTry; cases body e S <;> rfl
@[simp] theorem kTry_nx : kTry i sub h (.nx e S) = .nx e S := rfl
@[simp] theorem kTry_rt : kTry i sub h (.rt d S) = .rt d S := rfl
theorem kTry_ex (h1 : sub.lookup c = some true) (h2 : i < e.length) (h3 : h c fs (e.set i .no) S = .ok d S') : kTry i sub h (.ex c fs e S) = .rt d S' := by
  unfold kTry
  simp only [h1, h3, if_pos h2]
end
end DL
namespace DL
open PySem L2
section
variable {X : Cx} {W : WX} {pos pos' : Pos} {o i a : Expr} {f f1 f2 fv fo fi : DE} {kk : Nat} {x : Str}
def dcopK (l : List Dv) (S : Sto) : Res (List (Key × Dv)) := match l with
  | [d] => (match asD S d with
    | some m => .ok m S
    | none => .no)
  | _ => .no
def dCopy (fa : DA) : DD := fun e S => bnd (fa e S) dcopK
end
end DL
namespace DL
open PySem PySem.Spec PyProof.Rows L2
def kCallP (c : Str) (g : DF) (d : Dv) (as : List Dv) (S : Sto) : Res Dv := match insOf S d with
  | some (c', _) => if c' = c then g S (d :: as) else .no
  | none => .no
def kCallO (c : Str) (g : DF) (fa : DA) (e : Env) (d : Dv) (S : Sto) : Res Dv := match insOf S d with
  | some (c', _) => if c' = c then bnd (fa e S) (kCallP c g d) else .no
  | none => .no
def eCallO (c : Str) (g : DF) (i : Nat) (fa : DA) : DE := fun e S => bnd (eVar i e S) (kCallO c g fa e)
def augF (op : Dv → Dv → Option Dv) (c f : Str) (k : Nat) (x : Dv) (e : Env) (y : Dv) (S : Sto) : Out := match op x y with
  | some z => (match setF c f S (.hdl k) z with
    | some S2 => .nx e S2
    | none => .no)
  | none => .no
def kAugF (op : Dv → Dv → Option Dv) (c f : Str) (fv : DE) (e : Env) (o : Dv) (S : Sto) : Out := match o with
  | .hdl k => (match S[k]? with
    | some (.ins c' fs) => if c' = c then (match fs.lookup f with
      | some x => sBind fv (augF op c f k x) e S
      | none => .no) else .no
    | _ => .no)
  | _ => .no
def sAugF (op : Dv → Dv → Option Dv) (c f : Str) (fo fv : DE) : DS := sBind fo (kAugF op c f fv)
section
variable (S S' : Sto) (e e' : Env) (d d1 d2 : Dv) (l : List Dv) (m : List (Key × Dv)) (c f : Str) (fs : List (Str × Dv)) (fa : DA) (g : DF) (i k : Nat) (fv fi fo f1 : DE)
@[simp] theorem ev_callO : eCallO c g i fa e S = bnd (kVar S (e[i]?)) (kCallO c g fa e) := rfl
@[simp] theorem ev_augF (op : Dv → Dv → Option Dv) : sAugF op c f fo fv e S = kS (kAugF op c f fv) e (fo e S) := ev_sbind ..
@[simp] theorem ev_dCopy : dCopy fa e S = bnd (fa e S) dcopK := rfl
@[simp] theorem dcopK_dic : dcopK [.dic m] S = .ok m S := rfl
end
end DL
namespace DL
open PySem L2
def rngK1 (d : Dv) (S : Sto) : Res (List Dv) := match d with
  | .int n => if 0 ≤ n ∧ n ≤ 16777216 then .ok (rngD 0 n.toNat) S else .no
  | _ => .no
def fRng (f : DE) : DL := fun e S => bnd (f e S) rngK1
theorem vrs_rng {K : Kw} {L : Addr → Prop} {io : List Addr} {H : Hp} (n : Int) : VRs K L io H (rgV 0 n) (rngD 0 n.toNat) := by
  unfold rgV rngD
  rw [Int.sub_zero]
  generalize List.range n.toNat = l
  induction l with
  | nil => exact .nil
  | cons x r ih => exact .cons (.int _) ih
theorem qf_rng {X : Cx} {W : WX} {p p2 pos pos2 : Pos} {a : Expr} {f : DE} (hm : X.mg "list" = none) (hm2 : X.mg "range" = none) (ha : QE X W a f) (hc : X.calm = true := by rfl) (hg : Gl X "list" := by rfl) (hg2 : Gl X "range" := by rfl) (na : starEach [a] X.env = (false, eval a X.env) :: starEach [] X.env := by rfl)
    (na2 : starEach [.Call (.Name "range" p2) [a] [] pos2] X.env = (false, eval (.Call (.Name "range" p2) [a] [] pos2) X.env) :: starEach [] X.env := by rfl) : QF X W (.Call (.Name "list" p) [.Call (.Name "range" p2) [a] [] pos2] [] pos) (fRng f) :=
  pe_imp (pe_listRg hc hg hm (prg_1 hg2 hm2 ha na) na2) fun g H Q q => by
  obtain ⟨L0, io0, H0, L, io, e, S, fr, q⟩ := q
  refine FinF.bind (R := VR X.kw) (k := rngK1) fr q fun L1 io1 H1 S1 d v s1 fr1 rv q => ?_
  unfold rngK1 at q
  cases d with
  | int n =>
    simp only at q
    split at q
    · rename_i hn
      cases rv
      refine ⟨n, rfl, RgOk.of_le (by omega) hn.2 (by omega) hn.1, FinF.new q fr1.st (vrs_rng n)⟩
    · exact q.elim
  | _ => exact q.elim
def kRevL (d : Dv) (S : Sto) : Res (List Dv) := match asL S d with
  | some l => .ok l.reverse S
  | none => .no
def fRevL (f : DE) : DL := fun e S => bnd (f e S) kRevL
def kRepL (a : List Dv) (d : Dv) (S : Sto) : Res (List Dv) := match d with
  | .int k => if -(2 ^ 63) ≤ k ∧ k < 2 ^ 63 ∧ a.length * k.toNat ≤ sizeLine then .ok (List.replicate k.toNat a).flatten S else .no
  | _ => .no
def kRepA (f2 : DE) (e : Env) (d : Dv) (S : Sto) : Res (List Dv) := match d with
  | .lst l => bnd (f2 e S) (kRepL l)
  | _ => .no
def fRep (f1 f2 : DE) : DL := fun e S => bnd (f1 e S) (kRepA f2 e)
section
variable (S : Sto) (e : Env) (l : List Dv) (f f1 f2 : DE)
@[simp] theorem ev_fRng : fRng f e S = bnd (f e S) rngK1 := rfl
@[simp] theorem ev_fRevL : fRevL f e S = bnd (f e S) kRevL := rfl
@[simp] theorem kRevL_lst : kRevL (.lst l) S = .ok l.reverse S := rfl
@[simp] theorem ev_fRep : fRep f1 f2 e S = bnd (f1 e S) (kRepA f2 e) := rfl
@[simp] theorem kRepA_lst : kRepA f2 e (.lst l) S = bnd (f2 e S) (kRepL l) := rfl
end
end DL
namespace DL
open PySem L2
end DL
namespace DL
open PySem L2
end DL
namespace DL
open PySem L2
section
variable {X : Cx} {W : WX} {pos p tpos : Pos} {o i a b : Expr} {c : Str} {fo fi fv f1 f2 : DE} {g : DF} {k : Nat}
theorem dvs_nil {K : Kw} {dvs : List V} (hd : ∀ L io H, VRs K L io H dvs []) : dvs = [] := by
  have := hd (fun _ => False) [] (fun _ => none)
  cases this; rfl
end
end DL
namespace DL
open PySem L2
def frzN : Nat → Sto → Dv → Dv
  | n + 1, S, .hdl k => (match S[k]? with
    | some (.lst l) => .lst (l.map (frzN n S))
    | some (.dct l) => .dic (l.map fun q => (q.1, frzN n S q.2))
    | some (.ins c fs) => .obj c (fs.map fun q => (q.1, frzN n S q.2))
    | _ => .hdl k)
  | _, _, d => d
abbrev L00 : Addr → Prop := fun _ => False
section
variable {K : Kw} {L : Addr → Prop} {io : List Addr} {H : Hp} {S : Sto}
theorem noh_all {v : V} {d : Dv} (r : VR K L io H v d) (h : noH d = true) : VR K L00 [] H v d := VR.noh (fun a o e _ => ⟨e, fun z => z⟩) r h
theorem frzs_ok (n : Nat) (ih : ∀ (d : Dv) (v : V), VR K L io H v d → noH (frzN n S d) = true → VR K L00 [] H v (frzN n S d)) : ∀ (l : List Dv) (vs : List V), VRs K L io H vs l → noHs (l.map (frzN n S)) = true → VRs K L00 [] H vs (l.map (frzN n S))
  | [], _, .nil, _ => .nil
  | d :: l, _, .cons h t, e => by
    simp only [List.map_cons, noHs, Bool.and_eq_true] at e
    exact .cons (ih d _ h e.1) (frzs_ok n ih l _ t e.2)
theorem frzp_ok (n : Nat) (ih : ∀ (d : Dv) (v : V), VR K L io H v d → noH (frzN n S d) = true → VR K L00 [] H v (frzN n S d)) : ∀ (l : List (Key × Dv)) (vs : List (Key × V)), PairR (VR K L io H) vs l → noHp (l.map fun q => (q.1, frzN n S q.2)) = true → PairR (VR K L00 [] H) vs (l.map fun q => (q.1, frzN n S q.2))
  | [], _, .nil, _ => .nil
  | (k2, d) :: l, (k1, v) :: vs, .cons ⟨h1, h2⟩ t, e => by
    simp only [List.map_cons, noHp, Bool.and_eq_true] at e
    exact .cons ⟨h1, ih d v h2 e.1⟩ (frzp_ok n ih l vs t e.2)
theorem frzf_ok (n : Nat) (ih : ∀ (d : Dv) (v : V), VR K L io H v d → noH (frzN n S d) = true → VR K L00 [] H v (frzN n S d)) : ∀ (l : List (Str × Dv)) (vs : List (Str × V)), PairR (VR K L io H) vs l → noHf (l.map fun q => (q.1, frzN n S q.2)) = true → PairR (VR K L00 [] H) vs (l.map fun q => (q.1, frzN n S q.2))
  | [], _, .nil, _ => .nil
  | (k2, d) :: l, (k1, v) :: vs, .cons ⟨h1, h2⟩ t, e => by
    simp only [List.map_cons, noHf, Bool.and_eq_true] at e
    exact .cons ⟨h1, ih d v h2 e.1⟩ (frzf_ok n ih l vs t e.2)
theorem frzN_ok (sr : SR K L io H S) : ∀ (n : Nat) (d : Dv) (v : V), VR K L io H v d → noH (frzN n S d) = true → VR K L00 [] H v (frzN n S d)
  | 0, d, v, r, e => by
    cases d <;> exact noh_all r e
  | n + 1, .hdl k, v, r, e => by
    cases r with
    | hdl hk =>
      rename_i a
      cases q : S[k]? with
      | none => simp only [frzN, q, noH] at e; cases e
      | some o =>
        cases o with
        | lst l =>
          simp only [frzN, q, noH] at e ⊢
          obtain ⟨xs, h, t⟩ := sr.obj k a _ hk q
          exact .lst (fun z => z) h (frzs_ok n (frzN_ok sr n) l xs t e)
        | dct l =>
          simp only [frzN, q, noH] at e ⊢
          obtain ⟨xs, h, t⟩ := sr.obj k a _ hk q
          exact .dic (fun z => z) (.inl h) (frzp_ok n (frzN_ok sr n) l xs t e).vrp
        | ins c fs =>
          simp only [frzN, q, noH] at e ⊢
          obtain ⟨dx, xs, h, t⟩ := sr.obj k a _ hk q
          exact .obj (fun z => z) h (vrf_of (frzf_ok n (frzN_ok sr n) fs xs t e))
        | ext => simp only [frzN, q, noH] at e; cases e
        | dcn => simp only [frzN, q, noH] at e; cases e
  | n + 1, .non, v, r, e => noh_all r e
  | n + 1, .bl _, v, r, e => noh_all r e
  | n + 1, .int _, v, r, e => noh_all r e
  | n + 1, .str _, v, r, e => noh_all r e
  | n + 1, .tup _, v, r, e => noh_all r e
  | n + 1, .lst _, v, r, e => noh_all r e
  | n + 1, .rol _, v, r, e => noh_all r e
  | n + 1, .dic _, v, r, e => noh_all r e
  | n + 1, .obj _ _, v, r, e => noh_all r e
  | n + 1, .glo _, v, r, e => noh_all r e
  | n + 1, .ty _, v, r, e => noh_all r e
  | n + 1, .ext _ _ _ _, v, r, e => noh_all r e
/-- dicts are locked -/
theorem VR.lock {H' : Hp} (hl : ∀ b o, H b = some o → H' b = some o ∨ ∃ kvs od, o = .dK kvs ∧ H' b = some (.frz od o)) {v : V} {d : Dv} (h : VR K L00 [] H v d) : VR K L00 [] H' v d := by
  have rdl : ∀ {a : Addr} {xs : List V}, Rd H a (.lst xs) → Rd H' a (.lst xs) := fun {a xs} r => by
    rcases r with r | ⟨o, r⟩
    · rcases hl a _ r with z | ⟨kvs, od, z, _⟩
      · exact .inl z
      · cases z
    · rcases hl a _ r with z | ⟨kvs, od, z, _⟩
      · exact .inr ⟨o, z⟩
      · cases z
  have rdd : ∀ {a : Addr} {kvs : List (Key × V)}, Rd H a (.dK kvs) → Rd H' a (.dK kvs) := fun {a kvs} r => by
    rcases r with r | ⟨o, r⟩
    · rcases hl a _ r with z | ⟨kvs, od, z, z2⟩
      · exact .inl z
      · exact .inr ⟨od, z2⟩
    · rcases hl a _ r with z | ⟨kvs, od, z, _⟩
      · exact .inr ⟨o, z⟩
      · cases z
  refine VR.rec (motive_1 := fun v d _ => VR K L00 [] H' v d) (motive_2 := fun vs ds _ => VRs K L00 [] H' vs ds) (motive_3 := fun vs ds _ => VRp K L00 [] H' vs ds) (motive_4 := fun vs ds _ => VRf K L00 [] H' vs ds) ?_ ?_ ?_ ?_ ?_ ?_ ?_ ?_ ?_ ?_ ?_ ?_ ?_ ?_ ?_ ?_ ?_ ?_ ?_ ?_ ?_ h
  · exact .non
  · exact fun b => .bl b
  · exact fun i => .int i
  · exact fun x => .str x
  · intro a xs ds nl e _ ih
    rcases hl a _ e with z | ⟨kvs, od, z, _⟩
    · exact .tup nl z ih
    · cases z
  · exact fun h _ ih => .tupK h ih
  · intro a xs ds nl e _ ih
    rcases hl a _ e with z | ⟨kvs, od, z, _⟩
    · exact .lst nl z ih
    · cases z
  · intro a xs ds nl r _ ih
    exact .rol nl (rdl r) ih
  · exact fun h _ ih => .rolK h ih
  · intro a xs ds nl r _ ih
    exact .dic nl (rdd r) ih
  · intro a dx c vs fs nl e _ ih
    rcases hl a _ e with z | ⟨kvs, od, z, _⟩
    · exact .obj nl z ih
    · cases z
  · exact fun h => .hdl h
  · exact fun x => .glo x
  · exact fun n => .ty n
  · intro a t c ns vs ds os h0 hk ho _ ih
    refine .ext h0 hk (fun p hp => ⟨fun z => z, ?_⟩) ih
    rcases hl _ _ (ho p hp).2 with z | ⟨kvs, od, z, _⟩
    · exact z
    · exact absurd z (hk.nodk p hp kvs)
  · exact .nil
  · exact fun _ _ h1 h2 => .cons h1 h2
  · exact .nil
  · exact fun _ _ h1 h2 => .cons h1 h2
  · exact .nil
  · exact fun _ _ h1 h2 => .cons h1 h2
def vwS (S : Sto) : Sl → Sl
  | .va d => if noH (frzN 4 S d) = true then .va (frzN 4 S d) else .no
  | _ => .no
def vwE (S : Sto) (e : Env) : Env := e.map (vwS S)
theorem sr00 (H : Hp) : SR K L00 [] H [] where
  len := rfl
  nd := List.nodup_nil
  sub := fun _ h => by simp at h
  dom := fun _ h => h.elim
  obj := fun k a o h => by simp at h
/-- the view's frame, dicts locked or not -/
theorem FR.view {L0 : Addr → Prop} {io0 : List Addr} {H0 H' : Hp} {g : St} {e : Env} (fr : FR K L0 io0 H0 L io H g e S) (hl : ∀ b o, H b = some o → H' b = some o ∨ ∃ kvs od, o = .dK kvs ∧ H' b = some (.frz od o)) : FR K L00 [] H' L00 [] H' g (vwE S e) [] where
  st := sr00 H'
  len := by simp only [vwE, List.length_map]; exact fr.len
  va := fun i d h => by
    simp only [vwE, List.getElem?_map] at h
    cases he : e[i]? with
    | none => rw [he] at h; cases h
    | some sl =>
      rw [he] at h
      cases sl with
      | va d' =>
        simp only [Option.map_some, vwS] at h
        split at h
        · rename_i hn
          cases h
          obtain ⟨v, h1, h2⟩ := fr.va i d' he
          exact ⟨v, h1, VR.lock hl (frzN_ok fr.st 4 d' v h2 hn)⟩
        · cases h
      | no => cases h
      | own o => cases h
  own := fun i o h => by
    simp only [vwE, List.getElem?_map] at h
    cases he : e[i]? with
    | none => rw [he] at h; cases h
    | some sl =>
      rw [he] at h
      cases sl with
      | va d' =>
        simp only [Option.map_some, vwS] at h
        split at h <;> cases h
      | no => cases h
      | own o => cases h
  inj := fun i j p _ v1 _ v2 _ hg _ => by
    simp only [vwE, List.getElem?_map] at v1 v2
    cases he : e[i]? with
    | none =>
      have : g[i]? = none := by
        rw [List.getElem?_eq_none_iff] at he ⊢
        rw [fr.len]; exact he
      rw [this] at hg
      cases hg
    | some sl =>
      rw [he] at v1 v2
      cases sl with
      | va d' =>
        simp only [Option.map_some, vwS] at v1 v2
        split at v1
        · exact v1 _ rfl
        · rename_i hn; rw [if_neg hn] at v2; exact v2 rfl
      | no => exact v2 rfl
      | own o => exact v2 rfl
  en := Stp.refl ..
  sub0 := fun _ h => by simp at h
  dom0 := fun _ h => h.elim
end
end DL
namespace DL
open PySem L2
def gL (gs : DGs) : DG := fun d e => (asF d).bind fun l => gs l e
@[simp] theorem ev_gL (gs : DGs) (l : List Dv) (e : Env) : gL gs (.lst l) e = gs l e := rfl
end DL
namespace DL
open PySem L2 PySem.Spec PyProof.Rows
def popM (l as : List Dv) : Option (List Dv × Dv) := match as with
  | [] => (match l.getLast? with
    | some d => some (l.dropLast, d)
    | none => none)
  | _ => none
theorem vrs_last {K : Kw} {L : Addr → Prop} {io : List Addr} {H : Hp} : ∀ {xs : List V} {l : List Dv} {d : Dv}, VRs K L io H xs l → l.getLast? = some d → ∃ v, xs[xs.length - 1]? = some v ∧ VR K L io H v d := fun {xs l d} r h => by
  rw [List.getLast?_eq_getElem?] at h
  rw [← r.len] at h
  exact r.get h
theorem vrs_drop {K : Kw} {L : Addr → Prop} {io : List Addr} {H : Hp} {xs : List V} {l : List Dv} (r : VRs K L io H xs l) : VRs K L io H xs.dropLast l.dropLast := by
  rw [List.dropLast_eq_take, List.dropLast_eq_take, r.len]
  exact r.take _
theorem owns_pop {K : Kw} : OwnS K rPop popM := by
  intro L io H S p xs l vs as l' d Q sr hp lp rx ra hh q
  cases ra with
  | cons => cases hh
  | nil =>
    simp only [popM] at hh
    cases e : l.getLast? with
    | none => rw [e] at hh; cases hh
    | some z =>
      rw [e] at hh
      cases hh
      obtain ⟨v, h1, h2⟩ := vrs_last rx e
      exact ⟨p, xs, v, rfl, rfl, hp, h1, q _ _ (vrs_drop rx) h2⟩
end DL
namespace DL
open PySem L2
def minD (S : Sto) : List Dv → Option (Dv × Sto)
  | [.int i, .int j] => some (.int (if j < i then j else i), S)
  | _ => none
theorem cas_min {K : Kw} : CaS K (fun xs H Q => ∃ i j, xs = [.int i, .int j] ∧ Q (.int (if j < i then j else i)) H) minD := by
  intro L io H S xs l d S' Q sr rv e q
  unfold minD at e
  split at e
  · cases e
    cases rv with
    | cons r1 t1 =>
      cases t1 with
      | cons r2 t2 =>
        cases t2
        have r1 := r1.vr rfl
        have r2 := r2.vr rfl
        cases r1
        cases r2
        exact ⟨_, _, rfl, q _ H L io (Stp.refl ..) sr (.int _)⟩
  · cases e
end DL
namespace DL
open PySem L2
end DL
namespace DL
open PySem L2
end DL
namespace SrtF
open PySem PySem.Spec PyProof.Rows L2
structure KeepF (fs : List Addr) (h h' : Heap) : Prop where
  k : ∀ b o, h.get? b = some o → b ∉ fs → h'.get? b = some o
  f : ∀ b o, h.get? b = some o → b ∈ fs → ∃ sl, h'.get? b = some { o with slots := sl }
section
variable {fs : List Addr} {h h' h2 : Heap} {H : Hp} {P : Program} {w : World}
theorem KeepF.of (k : ∀ b o, h.get? b = some o → h'.get? b = some o) : KeepF fs h h' := ⟨fun b o e _ => k b o e, fun b o e _ => ⟨o.slots, k b o e⟩⟩
theorem KeepF.trans (a : KeepF fs h h') (b : KeepF fs h' h2) : KeepF fs h h2 := ⟨fun x o e n => b.k x o (a.k x o e n) n, fun x o e n => by
  obtain ⟨sl, e1⟩ := a.f x o e n
  obtain ⟨sl2, e2⟩ := b.f x _ e1 n
  exact ⟨sl2, e2⟩⟩
theorem KeepF.there (a : KeepF fs h h') {b : Addr} {o : Obj} (e : h.get? b = some o) : ∃ o', h'.get? b = some o' := by
  by_cases hb : b ∈ fs
  · obtain ⟨sl, e1⟩ := a.f b o e hb
    exact ⟨_, e1⟩
  · exact ⟨o, a.k b o e hb⟩
theorem KeepF.un (a : KeepF fs h h') : Un fs [] H H h h' :=
  ⟨fun b o e _ nf _ => a.k b o e nf, fun b o e _ hf _ => a.f b o e hf, fun _ _ _ n _ => n, fun b o e _ => a.there e, fun _ _ q => q, fun _ _ _ q => q, fun _ ps q => ⟨#[], by rw [q]; simp⟩⟩
theorem obj_there {c : Addr} {o : HO} (x : ObjOk P w H h c o) : ∃ u, h.get? c = some u := by
  cases o with
  | lst xs => obtain ⟨_, _, _, _, e⟩ := x; exact ⟨_, e⟩
  | tup xs => obtain ⟨_, _, _, o, e, _⟩ := x; exact ⟨_, e⟩
  | dK kvs => obtain ⟨_, _, _, _, o, _, _, e, _⟩ := x; exact ⟨_, e⟩
  | dT kvs => obtain ⟨_, _, _, _, o, _, _, e, _⟩ := x; exact ⟨_, e⟩
  | set S n => obtain ⟨o, _, _, _, e, _⟩ := x; exact ⟨_, e⟩
  | ins C dx fs => obtain ⟨_, _, _, e, _⟩ := x; exact ⟨_, e⟩
  | own y => obtain ⟨_, e⟩ := x; exact ⟨_, e⟩
  | xd fs => obtain ⟨_, ⟨_, _, _, e, _⟩, _⟩ := x; exact ⟨_, e⟩
  | rng lo hi => obtain ⟨_, _, _, e⟩ := x; exact ⟨_, e⟩
  | frz ob u => obtain ⟨e, _⟩ := x; exact ⟨_, e⟩
  | tbl ps => exact ⟨_, show h.get? c = some _ from x⟩
  | met f y => exact ⟨_, show h.get? c = some _ from x⟩
  | ext φ => obtain ⟨_, ⟨_, e⟩, _⟩ := x; exact ⟨_, e⟩
theorem KeepF.hok (a : KeepF fs h h') (x : HOk P w H h) (hf : ∀ b ∈ fs, H b = none) : HOk P w H h' := fun c o e =>
  (x c o e).stay (fun b u hb q => a.k b u q fun z => by
    have := hf b z
    rcases hb with rfl | hb
    · rw [this] at e; cases e
    · rw [this] at hb; cases hb) (fun _ q => q) fun _ _ q => q
end
section
variable {X : Cx} {pins : List (Addr × Obj)} {σ : L2.St} {H : Hp} {s s' : Shared}
theorem fresh_of {p : Addr} (I : Inv X pins σ H s) (ne : ∀ b u, s.heap.get? b = some u → b ≠ p) : H p = none := by
  cases e : H p with
  | none => rfl
  | some u =>
    obtain ⟨o, h⟩ := obj_there (I.hok p u e)
    exact (ne p o h rfl).elim
/-- a new object is told behind it -/
theorem KeepF.laid {p : Addr} {o : HO} (a : KeepF (frs X.stack) s.heap s'.heap) (I : Inv X pins σ H s) (ho : s'.os = s.os) (hg : AllBare s'.gens) (ne : ∀ b u, s.heap.get? b = some u → b ≠ p) (new : ObjOk X.prog X.w (upd H p o) s'.heap p o) : Inv X pins σ (upd H p o) s' := by
  have hn : H p = none := fresh_of I ne
  have ne2 : ∀ b u, H b = some u → b ≠ p := fun b u e z => by rw [z, hn] at e; cases e
  refine I.call' (ch := []) ho ⟨fun b u e _ nf _ => a.k b u e nf, fun b u e _ hf _ => a.f b u e hf, fun b u e n _ => by rw [upd_ne (ne b u e)]; exact n, fun b u e _ => a.there e, fun b xs q => by rw [upd_ne (ne2 b _ q)]; exact q, fun b _ _ q => by rw [upd_ne (ne2 b _ q)]; exact q, fun b ps q => ⟨#[], by rw [upd_ne (ne2 b _ q), q]; simp⟩⟩ (fun c u e => ?_) hg fun b z => nomatch z
  by_cases hc : c = p
  · subst hc
    rw [upd_same] at e
    cases e
    exact new
  · rw [upd_ne hc] at e
    exact (I.hok c u e).stay (fun b v hb q => a.k b v q fun z => by
      have := I.stkFree b z
      rcases hb with rfl | hb
      · rw [this] at e; cases e
      · rw [this] at hb; cases hb) (fun b q => by rw [upd_ne (ne2 b _ q)]; exact q) fun b xs q => by rw [upd_ne (ne2 b _ q)]; exact q
end
end SrtF
namespace DL
open PySem L2
end DL
namespace DL
open PySem L2
def intsD : List Dv → Option (List Int)
  | [] => some []
  | .int i :: l => (intsD l).map (i :: ·)
  | _ :: _ => none
def fmtK (d : Dv) (S : Sto) : Res Dv := match d with
  | .str y => if y.length ≤ sizeLine then .ok (.str y) S else .no
  | .int i => if i.natAbs.log2 < 1920 then .ok (.str (toString i)) S else .no
  | _ => .no
def eFmt (f : DE) : DE := fun e S => bnd (f e S) fmtK
@[simp] theorem ev_fmt (f : DE) (e : Env) (S : Sto) : eFmt f e S = bnd (f e S) fmtK := rfl
def jsK (acc : Str) (k : Str → Env → Sto → Res Dv) (e : Env) (d : Dv) (S : Sto) : Res Dv := match d with
  | .str y => if (acc ++ y).length ≤ sizeLine then k (acc ++ y) e S else .no
  | _ => .no
def jsR : List DE → Str → Env → Sto → Res Dv
  | [], acc, _, S => .ok (.str acc) S
  | f :: fs, acc, e, S => bnd (f e S) (jsK acc (jsR fs) e)
def eJoi (fs : List DE) : DE := jsR fs Str.empty
@[simp] theorem ev_joi (fs : List DE) (e : Env) (S : Sto) : eJoi fs e S = jsR fs Str.empty e S := rfl
@[simp] theorem ev_js0 (acc : Str) (e : Env) (S : Sto) : jsR [] acc e S = .ok (.str acc) S := rfl
@[simp] theorem ev_js1 (f : DE) (fs : List DE) (acc : Str) (e : Env) (S : Sto) : jsR (f :: fs) acc e S = bnd (f e S) (jsK acc (jsR fs) e) := rfl
end DL
namespace DL
open PySem L2
theorem call_int2 {X : Cx} : CallR X (.type "int") (fun xs H Q => ((∃ i, xs = [.int i] ∧ Q (.int i) H) ∨ ∃ k, xs = [.bl k] ∧ Q (.int (if k then 1 else 0)) H) ∨ ∃ a n, xs = [.str a] ∧ PySem.intText? a = some n ∧ a.length ≤ 640 ∧ Q (.int n) H) := by
  intro pins s σ H xs us Q I r h
  rcases h with h | h
  · exact call_int1 pins s σ H xs us Q I r h
  · exact call_int_str pins s σ H xs us Q I r h
def intD2 (S : Sto) : List Dv → Option (Dv × Sto)
  | [.int i] => some (.int i, S)
  | [.bl b] => some (.int (if b then 1 else 0), S)
  | [.str x] => match PySem.intText? x with
    | some n => if x.length ≤ 640 then some (.int n, S) else none
    | none => none
  | _ => none
@[simp] theorem int2_int (S : Sto) (p : Int) : intD2 S [.int p] = some (.int p, S) := rfl
@[simp] theorem int2_bl (S : Sto) (b : Bool) : intD2 S [.bl b] = some (.int (if b then 1 else 0), S) := rfl
theorem cas_int2 {K : Kw} : CaS K (fun xs H Q => ((∃ i, xs = [.int i] ∧ Q (.int i) H) ∨ ∃ k, xs = [.bl k] ∧ Q (.int (if k then 1 else 0)) H) ∨ ∃ a n, xs = [.str a] ∧ PySem.intText? a = some n ∧ a.length ≤ 640 ∧ Q (.int n) H) intD2 := by
  intro L io H S xs l d S' Q sr rv e q
  unfold intD2 at e
  split at e
  · rename_i i
    cases e
    cases rv with
    | cons r t =>
      cases t
      have r := r.vr rfl
      cases r
      exact .inl (.inl ⟨_, rfl, q _ H L io (Stp.refl ..) sr (.int _)⟩)
  · rename_i b
    cases e
    cases rv with
    | cons r t =>
      cases t
      have r := r.vr rfl
      cases r
      exact .inl (.inr ⟨_, rfl, q _ H L io (Stp.refl ..) sr (.int _)⟩)
  · rename_i x
    split at e
    · rename_i n hn
      split at e
      · rename_i hl
        cases e
        cases rv with
        | cons r t =>
          cases t
          have r := r.vr rfl
          cases r
          exact .inr ⟨x, n, rfl, hn, hl, q _ H L io (Stp.refl ..) sr (.int _)⟩
      · cases e
    · cases e
  · cases e
end DL
namespace DL
open PySem PySem.Spec PyProof.Rows L2
def whK (s : DS) (again : Env → Sto → Out) (e : Env) (b : Bool) (S : Sto) : Out := if b then (match s e S with
  | .nx e' S' => again e' S'
  | .ct e' S' => again e' S'
  | .bk e' S' => .nx e' S'
  | o => o) else .nx e S
def whR (t : DT) (s : DS) : Nat → DS
  | 0 => fun _ _ => .no
  | n + 1 => sBind t (whK s (whR t s n))
@[simp] theorem whR_succ (n : Nat) (t : DT) (s : DS) (e : Env) (S : Sto) : whR t s (n + 1) e S = kS (whK s (whR t s n)) e (t e S) := ev_sbind ..
abbrev HCl := Nat × List (Str × Bool) × HR Dv
/-- one clause after the other -/
def takeH : List HCl → Str → List (Str × Dv) → Env → Sto → Out
  | [], c, fs, e, S => .ex c fs e S
  | (i, sub, h) :: r, c, fs, e, S => match sub.lookup c with
    | some true => if i < e.length then (match h c fs (e.set i .no) S with
      | .ok d S2 => .rt d S2
      | _ => .no) else .no
    | some false => takeH r c fs e S
    | none => .no
def kTryM (l : List HCl) (els : DS) : Out → Out
  | .ex c fs e' S' => takeH l c fs e' S'
  | .nx e' S' => els e' S'
  | o => o
def sTryM (l : List HCl) (body els : DS) : DS := fun e S => kTryM l els (body e S)
@[simp] theorem ev_tryM (l : List HCl) (body els : DS) (e : Env) (S : Sto) : sTryM l body els e S = kTryM l els (body e S) := rfl
@[simp] theorem kTryM_nx (l : List HCl) (els : DS) (e : Env) (S : Sto) : kTryM l els (.nx e S) = els e S := rfl
@[simp] theorem kTryM_rt (l : List HCl) (els : DS) (d : Dv) (S : Sto) : kTryM l els (.rt d S) = .rt d S := rfl
@[simp] theorem kTryM_ex (l : List HCl) (els : DS) (c : Str) (fs : List (Str × Dv)) (e : Env) (S : Sto) : kTryM l els (.ex c fs e S) = takeH l c fs e S := rfl
end DL
namespace DL
open PySem PySem.Spec PyProof.Rows L2
def notB (os xs : List Str) (S : Sto) (d : Dv) : Bool := match insOf S d with
  | some (c, _) => os.contains c
  | none => match d with
    | .ext 1 c _ _ => xs.contains c
    | _ => false
def tysB : List String → Bool
  | [] => true
  | t :: l => blt.contains t && tysB l
def isaD (os xs : List Str) (S : Sto) : List Dv → Option (Dv × Sto)
  | [d, c] => match isiD S [d, c] with
    | some r => some r
    | none => if notB os xs S d then (match c with
      | .ty t => if blt.contains t then some (.bl false, S) else none
      | .tup cs => (match tysOf cs with
        | some l => if tysB l then some (.bl false, S) else none
        | none => none)
      | _ => none) else none
  | _ => none
end DL
namespace DL
open PySem L2
def optOr {α : Type} : Option α → Option α → Option α
  | some a, _ => some a
  | none, b => b
@[simp] theorem optOr_some {α : Type} (a : α) (b : Option α) : optOr (some a) b = some a := rfl
@[simp] theorem optOr_none {α : Type} (b : Option α) : optOr none b = b := rfl
def isaE (os xs : List Str) (S : Sto) (d c : Dv) : Option (Dv × Sto) := if notB os xs S d then (match c with
      | .ty t => if blt.contains t then some (.bl false, S) else none
      | .tup cs => (match tysOf cs with
        | some l => if tysB l then some (.bl false, S) else none
        | none => none)
      | _ => none) else none
@[simp] theorem isaD_eq (os xs : List Str) (S : Sto) (d c : Dv) : isaD os xs S [d, c] = optOr (isiD S [d, c]) (isaE os xs S d c) := by
  unfold isaD isaE
  simp only
  generalize isiD S [d, c] = o
  cases o with
  | some a => rfl
  | none =>
    simp only [optOr_none]
    all_goals (by_cases h : notB os xs S d = true)
    all_goals (simp only [h, if_true])
    all_goals (try rfl)
    all_goals (cases c <;> rfl)
@[simp] theorem isi_obj (S : Sto) (c : Str) (fs : List (Str × Dv)) (x : Dv) : isiD S [.obj c fs, x] = none := by cases x <;> rfl
@[simp] theorem isi_ext (S : Sto) (t : Nat) (c : Str) (ns : List Str) (fs : List Dv) (x : Dv) : isiD S [.ext t c ns fs, x] = none := by cases x <;> rfl
end DL
namespace DL
open PySem PySem.Spec PyProof.Rows L2
end DL
namespace DL
open PySem PySem.Spec PyProof.Rows L2 LamX
end DL
namespace DL
open PySem PySem.Spec PyProof.Rows L2 LamX
end DL
namespace DL
open PySem PySem.Spec PyProof.Rows L2 LamX
end DL
namespace DL
open PySem PySem.Spec PyProof.Rows L2 LamX
end DL
namespace DL
open PySem PySem.Spec PyProof.Rows L2 LamX
end DL
namespace DL
open PySem PySem.Spec PyProof.Rows L2
def rngI1 (neg : Bool) (a : Dv) (l : List Dv) (S : Sto) : Res Dv := match a, l with
  | .int i, [.int hi] => .ok (.bl (if neg then !decide (0 ≤ i ∧ i < hi) else decide (0 ≤ i ∧ i < hi))) S
  | _, _ => .no
@[simp] theorem rngI1_ok (neg : Bool) (i hi : Int) (S : Sto) : rngI1 neg (.int i) [.int hi] S = .ok (.bl (if neg then !decide (0 ≤ i ∧ i < hi) else decide (0 ≤ i ∧ i < hi))) S := rfl
def eRngIn1 (neg : Bool) (f1 : DE) (fa : DA) : DE := fun e S => bnd (f1 e S) fun a S1 => bnd (fa e S1) fun l S2 => rngI1 neg a l S2
def kRI1 (neg : Bool) (fa : DA) (e : Env) : Dv → Sto → Res Dv := fun a S1 => bnd (fa e S1) fun l S2 => rngI1 neg a l S2
@[simp] theorem ev_rngIn1 {b : Bool} {f1 : DE} {fa : DA} {e : Env} {S : Sto} : eRngIn1 b f1 fa e S = bnd (f1 e S) (kRI1 b fa e) := rfl
@[simp] theorem kRI1_eq {b : Bool} {fa : DA} {e : Env} {S : Sto} (d : Dv) : kRI1 b fa e d S = bnd (fa e S) (rngI1 b d) := rfl
end DL
namespace DL
open PySem PySem.Spec PyProof.Rows L2
def kCatB (d1 d2 : Dv) (S : Sto) : Res (List Dv) := match asH S d1, asH S d2 with
  | some l, some m => if l.length + m.length ≤ sizeLine then .ok (l ++ m) S else .no
  | _, _ => .no
def kCatA (f2 : DE) (e : Env) (d1 : Dv) (S : Sto) : Res (List Dv) := bnd (f2 e S) (kCatB d1)
def fCat (f1 f2 : DE) : DL := fun e S => bnd (f1 e S) (kCatA f2 e)
section
variable (S : Sto) (e : Env) (l : List Dv) (f f1 f2 : DE)
@[simp] theorem ev_fCat : fCat f1 f2 e S = bnd (f1 e S) (kCatA f2 e) := rfl
@[simp] theorem kCatA_eq (d : Dv) : kCatA f2 e d S = bnd (f2 e S) (kCatB d) := rfl
end
end DL
namespace DL
open PySem L2
def rngK2 (a : Int) (d : Dv) (S : Sto) : Res (List Dv) := match d with
  | .int b => if 0 ≤ a ∧ a ≤ 16777216 ∧ 0 ≤ b ∧ b ≤ 16777216 then .ok (rngD a (b - a).toNat) S else .no
  | _ => .no
def rngKA (f2 : DE) (e : Env) (d : Dv) (S : Sto) : Res (List Dv) := match d with
  | .int a => bnd (f2 e S) (rngK2 a)
  | _ => .no
def fRng2 (f1 f2 : DE) : DL := fun e S => bnd (f1 e S) (rngKA f2 e)
section
variable (S : Sto) (e : Env) (f1 f2 : DE)
@[simp] theorem ev_fRng2 : fRng2 f1 f2 e S = bnd (f1 e S) (rngKA f2 e) := rfl
@[simp] theorem rngKA_int (a : Int) : rngKA f2 e (.int a) S = bnd (f2 e S) (rngK2 a) := rfl
end
end DL
namespace DL
open PySem L2
end DL
namespace DL
open PySem L2
end DL
namespace DL
open PySem L2
def addL (a b : Dv) (S : Sto) : Res (List Dv) := match asH S a with
  | some l => match asH S b with
    | some m => if l.length + m.length ≤ sizeLine then .ok (l ++ m) S else .no
    | none => .no
  | none => .no
def kAddL (f2 : DE) (e : Env) (a : Dv) (S1 : Sto) : Res (List Dv) := bnd (f2 e S1) (addL a)
def fAddL (f1 f2 : DE) : DL := fun e S => bnd (f1 e S) (kAddL f2 e)
@[simp] theorem ev_fAddL (f1 f2 : DE) (e : Env) (S : Sto) : fAddL f1 f2 e S = bnd (f1 e S) (kAddL f2 e) := rfl
@[simp] theorem ev_kAddL (f2 : DE) (e : Env) (a : Dv) (S : Sto) : kAddL f2 e a S = bnd (f2 e S) (addL a) := rfl
end DL
namespace DL
open PySem PySem.Spec PyProof.Rows L2
def nxR : Res Dv → Res Dv
  | .ok d S => .ok d S
  | _ => .no
@[simp] theorem nxR_ok (d : Dv) (S : Sto) : nxR (.ok d S) = .ok d S := rfl
def kProp (c : Str) (g : DF) (d : Dv) (S : Sto) : Res Dv := match insOf S d with
  | some (c', _) => if c' = c then nxR (g S [d]) else .no
  | none => .no
def eProp (c : Str) (g : DF) (fo : DE) : DE := fun e S => bnd (fo e S) (kProp c g)
@[simp] theorem ev_prop {c : Str} {g : DF} {fo : DE} {e : Env} {S : Sto} : eProp c g fo e S = bnd (fo e S) (kProp c g) := rfl
end DL
namespace DL
open PySem PySem.Spec PyProof.Rows L2
def kEqY (neg : Bool) (c c2 : Str) (g : DF) (a b : Dv) (S : Sto) : Res Dv := match insOf S a with
  | some (c', _) => match insOf S b with
    | some (d', _) => if c' = c ∧ d' = c2 then blR neg (g S [a, b]) else .no
    | none => .no
  | none => .no
def eEqY (neg : Bool) (c c2 : Str) (g : DF) (f1 f2 : DE) : DE := fun e S => bnd (f1 e S) fun a S1 => bnd (f2 e S1) fun b S2 => kEqY neg c c2 g a b S2
def kEqYA (neg : Bool) (c c2 : Str) (g : DF) (f2 : DE) (e : Env) (a : Dv) (S1 : Sto) : Res Dv := bnd (f2 e S1) (kEqY neg c c2 g a)
@[simp] theorem ev_eqY {neg : Bool} {c c2 : Str} {g : DF} {f1 f2 : DE} {e : Env} {S : Sto} : eEqY neg c c2 g f1 f2 e S = bnd (f1 e S) (kEqYA neg c c2 g f2 e) := rfl
@[simp] theorem ev_kEqYA {neg : Bool} {c c2 : Str} {g : DF} {f2 : DE} {e : Env} {a : Dv} {S : Sto} : kEqYA neg c c2 g f2 e a S = bnd (f2 e S) (kEqY neg c c2 g a) := rfl
end DL
namespace DL
open PySem L2
section
variable {α β : Type}
def Wp (r : Res α) (Q : Res α → Prop) : Prop := Q r
def Wo (o : Out) (Q : Out → Prop) : Prop := Q o
def kb (k : α → Sto → Res β) (Q : Res β → Prop) (r : Res α) : Prop := Q (bnd r k)
def kr (Q : Res Dv → Prop) (o : Out) : Prop := Q (kRun o)
def kq (s : DS) (Q : Out → Prop) (o : Out) : Prop := Q (kSeq s o)
def ks (k : Env → α → Sto → Out) (e : Env) (Q : Out → Prop) (r : Res α) : Prop := Q (kS k e r)
def kl (Q : Res (List Dv) → Prop) (r : Res (List Dv)) : Prop := Q (kLcEnd r)
variable {k : α → Sto → Res β} {r : Res α} {Q : Res β → Prop} {QA : Res α → Prop} {QD : Res Dv → Prop} {QL : Res (List Dv) → Prop} {QO : Out → Prop} {kk : Env → α → Sto → Out} {s : DS} {e e' : Env} {S : Sto} {a : α} {d : Dv} {c : Str} {fs : List (Str × Dv)} {o : Out} {l : List Dv} {rl : Res (List Dv)}
@[simp] theorem Wp_bnd : Wp (bnd r k) Q = Wp r (kb k Q) := rfl
@[simp] theorem Wp_kb_ok : Wp (.ok a S) (kb k Q) = Wp (k a S) Q := rfl
@[simp] theorem Wp_kb_ex : Wp (.ex c fs S) (kb k Q) = Wp (.ex c fs S) Q := rfl
@[simp] theorem Wp_run : Wp (kRun o) QD = Wo o (kr QD) := rfl
@[simp] theorem Wo_kr_rt : Wo (.rt d S) (kr QD) = Wp (.ok d S) QD := rfl
@[simp] theorem Wo_kr_nx : Wo (.nx e S) (kr QD) = Wp (.ok .non S) QD := rfl
@[simp] theorem Wo_kr_ex : Wo (.ex c fs e S) (kr QD) = Wp (.ex c fs S) QD := rfl
@[simp] theorem Wo_seq : Wo (kSeq s o) QO = Wo o (kq s QO) := rfl
@[simp] theorem Wo_kq_nx : Wo (.nx e S) (kq s QO) = Wo (s e S) QO := rfl
@[simp] theorem Wo_kq_rt : Wo (.rt d S) (kq s QO) = Wo (.rt d S) QO := rfl
@[simp] theorem Wo_kq_bk : Wo (.bk e S) (kq s QO) = Wo (.bk e S) QO := rfl
@[simp] theorem Wo_kq_ct : Wo (.ct e S) (kq s QO) = Wo (.ct e S) QO := rfl
@[simp] theorem Wo_kq_ex : Wo (.ex c fs e S) (kq s QO) = Wo (.ex c fs e S) QO := rfl
@[simp] theorem Wo_kS : Wo (kS kk e r) QO = Wp r (ks kk e QO) := rfl
@[simp] theorem Wp_ks_ok : Wp (.ok a S) (ks kk e QO) = Wo (kk e a S) QO := rfl
@[simp] theorem Wp_ks_ex : Wp (.ex c fs S) (ks kk e QO) = Wo (.ex c fs e S) QO := rfl
@[simp] theorem Wp_lcEnd : Wp (kLcEnd rl) QL = Wp rl (kl QL) := rfl
end
/-- a loop: I of what is left -/
def fo (I : Env → Sto → Prop) (Q : Out → Prop) : Out → Prop
  | .nx e S => I e S
  | .ct e S => I e S
  | .bk e S => Wo (.nx e S) Q
  | .no => False
  | o => Wo o Q
section
variable {gd : DG} {s : DS} {Q : Out → Prop} {I : Env → Sto → Prop} {e : Env} {S : Sto} {d : Dv} {c : Str} {fs : List (Str × Dv)}
@[simp] theorem Wo_fo_bk : Wo (.bk e S) (fo I Q) = Wo (.nx e S) Q := rfl
@[simp] theorem Wo_fo_rt : Wo (.rt d S) (fo I Q) = Wo (.rt d S) Q := rfl
@[simp] theorem Wo_fo_ex : Wo (.ex c fs e S) (fo I Q) = Wo (.ex c fs e S) Q := rfl
end
/-- a comprehension -/
def lq (I : Sto → Prop) (P : Dv → Prop) : Res Dv → Prop
  | .ok d S => I S ∧ P d
  | _ => False
def lt (I : Sto → Prop) (te : DE) (e1 : Env) (P : Option Dv → Prop) : Res Bool → Prop
  | .ok true S => Wp (te e1 S) (lq I fun d => P (some d))
  | .ok false S => I S ∧ P none
  | _ => False
section
variable {I : Sto → Prop} {P : Dv → Prop} {PO : Option Dv → Prop} {te : DE} {e1 : Env} {S : Sto} {d : Dv}
@[simp] theorem Wp_lq : Wp (.ok d S) (lq I P) = (I S ∧ P d) := rfl
@[simp] theorem Wp_lt_t : Wp (.ok true S) (lt I te e1 PO) = Wp (te e1 S) (lq I fun d => PO (some d)) := rfl
@[simp] theorem Wp_lt_f : Wp (.ok false S) (lt I te e1 PO) = (I S ∧ PO none) := rfl
end
/-- what comes of each: Fa d (some y) if y is kept for d, Fa d none if nothing is -/
inductive Keep (Fa : Dv → Option Dv → Prop) : List Dv → List Dv → Prop
  | nil : Keep Fa [] []
  | put {d y : Dv} {l m : List Dv} : Fa d (some y) → Keep Fa l m → Keep Fa (d :: l) (y :: m)
  | out {d : Dv} {l m : List Dv} : Fa d none → Keep Fa l m → Keep Fa (d :: l) m
theorem Keep.len {Fa : Dv → Option Dv → Prop} : ∀ {l m : List Dv}, Keep Fa l m → m.length ≤ l.length
  | _, _, .nil => Nat.le_refl _
  | _, _, .put _ t => by simp only [List.length_cons]; have := t.len; omega
  | _, _, .out _ t => by simp only [List.length_cons]; have := t.len; omega
theorem Keep.all {Fa : Dv → Option Dv → Prop} {P : Dv → Prop} (h : ∀ d y, Fa d (some y) → P y) : ∀ {l m : List Dv}, Keep Fa l m → ∀ y ∈ m, P y
  | _, _, .nil, _, hy => nomatch hy
  | _, _, .put a t, y, hy => by
    rcases List.mem_cons.mp hy with rfl | hy
    · exact h _ _ a
    · exact t.all h y hy
  | _, _, .out _ t, y, hy => t.all h y hy
theorem len_hdl {S : Sto} {k : Nat} {l : List Dv} (h : S[k]? = some (.lst l)) : lenD S [.hdl k] = some (.int l.length, S) := by
  simp [lenD, asQ, asT, asL, h]
def kMkB (c : Str) (dl : List Dv) (g : DF) (as : List Dv) (S : Sto) : Res Dv := kMk c g (as ++ dl) S
@[simp] theorem ev_eMk (c : Str) (dl : List Dv) (g : DF) (fa : DA) (e : Env) (S : Sto) : eMk c dl g fa e S = bnd (fa e S) (kMkB c dl g) := rfl
@[simp] theorem isnot_bb (S : Sto) (p q : Bool) : pu2 (isD true) S (.bl p) (.bl q) = some (.bl (!decide (p = q)), S) := rfl
@[simp] theorem ev_tTrue (e : Env) (S : Sto) : tTrue e S = .ok true S := rfl
end DL
namespace DL
open PySem PySem.Spec PyProof.Rows L2
mutual
def pureD : Dv → Bool
  | .tup l => pureDs l
  | .obj _ fs => pureDf fs
  | .lst _ => false
  | .rol _ => false
  | .dic _ => false
  | .hdl _ => false
  | .ext _ _ _ _ => false
  | _ => true
def pureDs : List Dv → Bool
  | [] => true
  | d :: l => pureD d && pureDs l
def pureDf : List (Str × Dv) → Bool
  | [] => true
  | (_, d) :: l => pureD d && pureDf l
end
def sqO (S : Sto) (k : Nat) : Option (List Dv) := match S[k]? with
  | some (.lst l) => some l
  | _ => none
def thaw : Nat → Sto → Dv → Option Dv
  | 0, _, _ => none
  | n + 1, S, d => if noH d then some d else match d with
    | .tup l => (l.mapM (thaw n S)).map .tup
    | .lst l => (l.mapM (thaw n S)).map .lst
    | .hdl k => (sqO S k).bind fun l => (l.mapM (thaw n S)).map .lst
    | _ => none
def thaws (S : Sto) (l : List Dv) : Option (List Dv) := l.mapM (thaw 30 S)
def Lm (L : Addr → Prop) (H : Hp) : Addr → Prop := fun a => L a ∧ ∀ xs, H a ≠ some (.lst xs)
section
variable {K : Kw} {L L' : Addr → Prop} {io io' : List Addr} {H H' : Hp} {S : Sto}
theorem VR.pure (hl : ∀ a o, H a = some o → (∀ xs, o ≠ .lst xs) → ¬ L a → H' a = some o ∧ ¬ L' a) : ∀ {v : V} {d : Dv}, VR K L io H v d → pureD d = true → VR K L' io' H' v d := by
  intro v d h
  refine VR.rec (motive_1 := fun v d _ => pureD d = true → VR K L' io' H' v d) (motive_2 := fun vs ds _ => pureDs ds = true → VRs K L' io' H' vs ds) (motive_3 := fun vs ds _ => True) (motive_4 := fun vs ds _ => pureDf ds = true → VRf K L' io' H' vs ds) ?_ ?_ ?_ ?_ ?_ ?_ ?_ ?_ ?_ ?_ ?_ ?_ ?_ ?_ ?_ ?_ ?_ ?_ ?_ ?_ ?_ h
  · exact fun _ => .non
  · exact fun b _ => .bl b
  · exact fun i _ => .int i
  · exact fun x _ => .str x
  · intro a xs ds nl e _ ih n
    obtain ⟨h1, h2⟩ := hl a _ e (fun xs => by exact fun z => nomatch z) nl
    exact .tup h2 h1 (ih (by simpa [pureD] using n))
  · exact fun h _ ih n => .tupK h (ih (by simpa [pureD] using n))
  · exact fun _ _ _ _ n => by simp [pureD] at n
  · exact fun _ _ _ _ n => by simp [pureD] at n
  · exact fun _ _ _ n => by simp [pureD] at n
  · exact fun _ _ _ _ n => by simp [pureD] at n
  · intro a dx c vs fs nl e _ ih n
    obtain ⟨h1, h2⟩ := hl a _ e (fun xs => by exact fun z => nomatch z) nl
    exact .obj h2 h1 (ih (by simpa [pureD] using n))
  · exact fun _ n => by simp [pureD] at n
  · exact fun x _ => .glo x
  · exact fun n _ => .ty n
  · exact fun _ _ _ _ _ n => by simp [pureD] at n
  · exact fun _ => .nil
  · exact fun _ _ h1 h2 n => by
      simp only [pureDs, Bool.and_eq_true] at n
      exact .cons (h1 n.1) (h2 n.2)
  · trivial
  · intros; trivial
  · exact fun _ => .nil
  · exact fun _ _ h1 h2 n => by
      simp only [pureDf, Bool.and_eq_true] at n
      exact .cons (h1 n.1) (h2 n.2)
theorem PairR.pure (hl : ∀ a o, H a = some o → (∀ xs, o ≠ .lst xs) → ¬ L a → H' a = some o ∧ ¬ L' a) : ∀ {vs : List (Str × V)} {ds : List (Str × Dv)}, PairR (VR K L io H) vs ds → pureDf ds = true → PairR (VR K L' io' H') vs ds
  | [], _, .nil, _ => .nil
  | _ :: _, (_, _) :: _, .cons ⟨h1, h2⟩ t, n => by
    simp only [pureDf, Bool.and_eq_true] at n
    exact .cons ⟨h1, VR.pure hl h2 n.1⟩ (PairR.pure hl t n.2)
theorem sqO_ok {k : Nat} {l : List Dv} (h : sqO S k = some l) : S[k]? = some (.lst l) := by
  unfold sqO at h
  split at h
  · rename_i heq; cases h; exact heq
  · cases h
theorem lm_no (a : Addr) (o : HO) (e : H a = some o) (n : ¬ L a) : H a = some o ∧ ¬ Lm L H a := ⟨e, fun z => n z.1⟩
theorem thaw_list {n : Nat} (ih : ∀ {v : V} {d d' : Dv}, VR K L io H v d → thaw n S d = some d' → VR K (Lm L H) [] H v d') : ∀ {vs : List V} {l l' : List Dv}, VRs K L io H vs l → l.mapM (thaw n S) = some l' → VRs K (Lm L H) [] H vs l'
  | _, [], _, .nil, e => by
    simp at e
    subst e
    exact .nil
  | _, d :: l, _, .cons h t, e => by
    rw [List.mapM_cons] at e
    cases h1 : thaw n S d with
    | none => rw [h1] at e; cases e
    | some d' =>
      cases h2 : l.mapM (thaw n S) with
      | none => rw [h1, h2] at e; cases e
      | some l2 =>
        rw [h1, h2] at e
        cases e
        exact .cons (ih h h1) (thaw_list ih t h2)
theorem thaw_ok (sr : SR K L io H S) : ∀ (n : Nat) {v : V} {d d' : Dv}, VR K L io H v d → thaw n S d = some d' → VR K (Lm L H) [] H v d'
  | 0, _, _, _, _, e => by cases e
  | n + 1, v, d, d', r, e => by
    unfold thaw at e
    split at e
    · rename_i hn
      cases e
      exact r.noh (fun a o e n => lm_no a o e n) hn
    · rename_i hnn
      cases r with
      | tup nl e1 t =>
        rename_i ds
        simp only at e
        cases h : ds.mapM (thaw n S) with
        | none => rw [h] at e; cases e
        | some l' => rw [h] at e; cases e; exact .tup (lm_no _ _ e1 nl).2 e1 (thaw_list (thaw_ok sr n) t h)
      | tupK h1 t =>
        rename_i ds
        simp only at e
        cases h : ds.mapM (thaw n S) with
        | none => rw [h] at e; cases e
        | some l' => rw [h] at e; cases e; exact .tupK h1 (thaw_list (thaw_ok sr n) t h)
      | lst nl e1 t =>
        rename_i ds
        simp only at e
        cases h : ds.mapM (thaw n S) with
        | none => rw [h] at e; cases e
        | some l' => rw [h] at e; cases e; exact .lst (lm_no _ _ e1 nl).2 e1 (thaw_list (thaw_ok sr n) t h)
      | hdl hk =>
        rename_i a k
        simp only at e
        cases hs : sqO S k with
        | none => rw [hs] at e; cases e
        | some l =>
          rw [hs] at e
          simp only [Option.bind_some] at e
          obtain ⟨xs, e1, t⟩ := sr.obj k a _ hk (sqO_ok hs)
          cases h : l.mapM (thaw n S) with
          | none => rw [h] at e; cases e
          | some l' => rw [h] at e; cases e; exact .lst (fun z => z.2 xs e1) e1 (thaw_list (thaw_ok sr n) t h)
      | _ => cases e
theorem thaws_ok (sr : SR K L io H S) {vs : List V} {l l' : List Dv} (r : VRs K L io H vs l) (e : thaws S l = some l') : VRs K (Lm L H) [] H vs l' := thaw_list (thaw_ok sr 30) r e
theorem sr_none (sr : SR K L io H S) : SR K (Lm L H) [] H [] := ⟨rfl, List.nodup_nil, (fun _ h => nomatch h), (fun a h => sr.dom a h.1), fun k a o e _ => by simp at e⟩
end
def kLend (S : Sto) : Res Dv → Res Dv
  | .ok d _ => if pureD d = true then .ok d S else .no
  | .ex c fs _ => if pureDf fs = true then .ex c fs S else .no
  | .no => .no
def kLendF (g : DF) (as : List Dv) (S : Sto) : Res Dv := match thaws S as with
  | some l => kLend S (g [] l)
  | none => .no
section
variable {K : Kw} {L : Addr → Prop} {io : List Addr} {H : Hp} {S : Sto}
theorem lend_back (sr : SR K L io H S) {L' : Addr → Prop} {io' : List Addr} {H' : Hp} (s : Stp (Lm L H) [] H L' io' H') : Stp L io H L io H' ∧ SR K L io H' S := by
  have keep : ∀ a o, H a = some o → H' a = some o := fun a o e => s.keep a o e (fun z => nomatch z)
  have st1 : Stp L io H L io H' := ⟨⟨[], by simp⟩, fun _ h => .inl h, fun _ h => .inl h, fun a o e _ => keep a o e, fun _ h => h⟩
  refine ⟨st1, ⟨sr.len, sr.nd, sr.sub, fun a ha => ?_, fun k a o h1 h2 => ?_⟩⟩
  · cases e : H a with
    | none => exact absurd e (sr.dom a ha)
    | some o => rw [keep a o e]; exact fun z => nomatch z
  · exact (sr.obj k a o h1 h2).mono (fun u e => keep a u e) fun v d r => r.step st1 sr.sub
theorem lend_hl (sr : SR K L io H S) {L' : Addr → Prop} {io' : List Addr} {H' : Hp} (s : Stp (Lm L H) [] H L' io' H') (a : Addr) (o : HO) (e : H' a = some o) (hn : ∀ xs, o ≠ .lst xs) (nl : ¬ L' a) : H' a = some o ∧ ¬ L a := by
  refine ⟨e, fun la => nl (s.up a ⟨la, fun xs z => ?_⟩)⟩
  have z2 := s.keep a _ z (fun z => nomatch z)
  rw [e] at z2
  cases z2
  exact hn xs rfl
theorem lend_fin {W : WX} {st : L2.St} {Q : VK} {r : Res Dv} (sr : SR K L io H S) (q : Fin K W (VR K) st L io H Q (kLend S r)) : Fin K W (VR K) st (Lm L H) [] H Q r := by
  cases r with
  | no => exact q
  | ok d S' =>
    unfold kLend at q
    simp only at q
    split at q
    · rename_i hp
      intro v H' L' io' s sr' rv
      obtain ⟨s1, sr1⟩ := lend_back sr s
      exact q v H' L io s1 sr1 (rv.pure (lend_hl sr s) hp)
    · exact q.elim
  | ex c fs S' =>
    unfold kLend at q
    simp only at q
    split at q
    · rename_i hp
      intro x H' L' io' s sr' rx
      obtain ⟨s1, sr1⟩ := lend_back sr s
      rcases rx with rx | ⟨a, ws, e1, e2, e3, e4⟩
      · exact q x H' L io s1 sr1 (.inl rx)
      exact q x H' L io s1 sr1 (.inr ⟨a, ws, e1, (lend_hl sr s a _ e3 (fun xs => by exact fun z => nomatch z) e2).2, e3, PairR.pure (lend_hl sr s) e4 hp⟩)
    · exact q.elim
/-- C(..) over lent arguments -/
def kMkL (c : Str) (g : DF) (as : List Dv) (S : Sto) : Res Dv := kLendF (fun S l => kMk c g l S) as S
theorem mkL_spD {W : WX} {c : Str} {g : DF} {st : L2.St} {vs : List V} {l : List Dv} {Q : VK} (sr : SR K L io H S) (r : VRs K L io H vs l) (q : Fin K W (VR K) st L io H Q (kMkL c g l S)) {x dx : Addr} (hx : H x = none) (hdx : H dx = none) (hn : dx ≠ x) :
    spD K g (.ref x :: vs) (upd (upd H dx (.own x)) x (.ins (He.ga K c) dx [])) (fun v H2 => v = .non ∧ Q (.ref x) H2) (fun c d H' => W c d st H') := by
  unfold kMkL kLendF at q
  cases h : thaws S l with
  | none => rw [h] at q; exact q.elim
  | some l' =>
    rw [h] at q
    exact mk_spD (sr_none sr) (thaws_ok sr r h) (lend_fin sr q) hx hdx hn
end
def eMkL (c : Str) (dl : List Dv) (g : DF) (fa : DA) : DE := fun e S => bnd (fa e S) fun as S1 => kMkL c g (as ++ dl) S1
/-- o.m(..) over lent things -/
def kMethL (c m : Str) (dl : List Dv) (g : DF) (fa : DA) (e : Env) (d : Dv) (S : Sto) : Res Dv := match insOf S d with
  | some (c', fs) => if c' = c ∧ (fs.lookup m).isNone = true then bnd (fa e S) fun as S2 => kLendF g (d :: (as ++ dl)) S2 else .no
  | none => .no
def eMethL (c m : Str) (dl : List Dv) (g : DF) (fo : DE) (fa : DA) : DE := fun e S => bnd (fo e S) (kMethL c m dl g fa e)
section
variable {X : Cx} {W : WX} {apos p pos : Pos} {o e : Expr} {es : List Expr} {m c : Str} {fo : DE} {fa : DA} {dl : List Dv} {g : DF} {k : Nat} {pl : Sem Bool}
theorem qe_mkL (F : FK X.prog X.w X.kw X.mg X.base k c dl g) (hr : RoomG (k + 1) X.A) (tk : Takes X W) (ha : QA X W (e :: es) fa) (hg : Gl X c := by rfl) (hdb : (c == ("__debug__" : Str)) = false := by decide)
    (he : starEach (e :: es) X.env = (false, eval e X.env) :: starEach es X.env := by rfl) (hpl : (backTo pos (starEach es X.env)).any (·.1) = false := by rfl) : QE X W (.Call (.Name c p) (e :: es) [] pos) (eMkL c dl g fa) := qe_mkA mkL_spD F hr tk ha hg hdb he hpl
end
section
variable (S : Sto) (e : Env) (d : Dv) (l l' : List Dv) (f f1 f2 fo : DE) (fa : DA) (c m : Str) (g : DF) (dl : List Dv) (i : Nat)
def kMkLB (c : Str) (dl : List Dv) (g : DF) (as : List Dv) (S : Sto) : Res Dv := kMkL c g (as ++ dl) S
@[simp] theorem ev_eMkL : eMkL c dl g fa e S = bnd (fa e S) (kMkLB c dl g) := rfl
@[simp] theorem ev_kMkLB : kMkLB c dl g l S = kMkL c g (l ++ dl) S := rfl
@[simp] theorem ev_methL : eMethL c m dl g fo fa e S = bnd (fo e S) (kMethL c m dl g fa e) := rfl
end
end DL
namespace DL
open PySem L2
def forH (k : Nat) (gd : DG) (body : DS) : Nat → Nat → Env → Sto → Out
  | 0, i, e, S => match sqO S k with
    | none => .no
    | some l => if l.length ≤ i then .nx e S else .no
  | n + 1, i, e, S => match sqO S k with
    | none => .no
    | some l => match l[i]? with
      | none => .nx e S
      | some d => match gd d e with
        | none => .no
        | some e' => match body e' S with
          | .nx e1 S1 => forH k gd body n (i + 1) e1 S1
          | .ct e1 S1 => forH k gd body n (i + 1) e1 S1
          | .bk e1 S1 => .nx e1 S1
          | o => o
def kForH (gd : DG) (body : DS) (e : Env) (d : Dv) (S : Sto) : Out := match d with
  | .hdl k => (match sqO S k with
    | some l => forH k gd body l.length 0 e S
    | none => .no)
  | _ => .no
def sForH (fi : DE) (gd : DG) (body : DS) : DS := sBind fi (kForH gd body)
section
variable (S : Sto) (e : Env) (k : Nat) (gd : DG) (body : DS) (fi : DE)
@[simp] theorem ev_forH : sForH fi gd body e S = kS (kForH gd body) e (fi e S) := ev_sbind ..
end
end DL
namespace TI
open PySem PySem.Spec PyProof.Rows L2
def insI (x : Int) : List Int → List Int
  | [] => [x]
  | y :: r => if x = y then y :: r else if x < y then x :: y :: r else y :: insI x r
def srtI (l : List Int) : List Int := l.foldr insI []
end TI
namespace DL
open PySem PyProof.Rows L2
/-- sorted(set(x)), x a list of ints -/
def srtSetIK (l : List Dv) (S : Sto) : Res (List Dv) := match l with
  | [d] => match (asL S d).bind intsD with
    | some ws => if ws.length ≤ 4000 ∧ (TI.srtI ws).length < 64 then .ok ((TI.srtI ws).map Dv.int) S else .no
    | none => .no
  | _ => .no
def fSrtSetI (fa : DA) : DL := fun e S => bnd (fa e S) srtSetIK
@[simp] theorem ev_srtSetI {fa : DA} {e : Env} {S : Sto} : fSrtSetI fa e S = bnd (fa e S) srtSetIK := rfl
def addBD (S : Sto) : Dv → Dv → Option (Dv × Sto)
  | .int i, .bl b => some (.int (i + b2i b), S)
  | _, _ => none
@[simp] theorem addBD_ib (S : Sto) (i : Int) (b : Bool) : addBD S (.int i) (.bl b) = some (.int (i + if b then 1 else 0), S) := by
  show some (Dv.int (i + b2i b), S) = _
  cases b <;> rfl
end DL
namespace DL
open PySem L2
end DL
namespace DL
open PySem PySem.Spec PyProof.Rows L2
def lenR : Res Dv → Res Dv
  | .ok (.int n) S => if 0 ≤ n ∧ n < 2 ^ 63 then .ok (.int n) S else .no
  | _ => .no
def kLenC (c : Str) (g : DF) (d : Dv) (S : Sto) : Res Dv := match insOf S d with
  | some (c', _) => if c' = c then lenR (g S [d]) else .no
  | none => .no
def eLenC (c : Str) (g : DF) (fo : DE) : DE := fun e S => bnd (fo e S) (kLenC c g)
def rLenC (K : Kw) (c : Str) (g : DF) : List V → Hp → VK → Prop := fun xs H Q => ∃ a dx fs, xs = [V.ref a] ∧ H a = some (.ins (He.ga K c) dx fs) ∧
  spD K g [.ref a] H (fun v H' => ∃ n : Int, v = .int n ∧ 0 ≤ n ∧ n < 2 ^ 63 ∧ Q (.int n) H') (fun _ _ _ => False)
section
variable {X : Cx} {W : WX} {k : Nat} {c : Str} {g : DF} {p pos : Pos} {o : Expr} {fo : DE}
theorem call_lenC (F : FM X.prog X.w X.kw X.mg X.base k c "__len__" [] g) (hr : RoomG (k + 1) X.A) : CallR X (.builtin "len") (rLenC X.kw c g) := by
  intro pins s σ H xs us Q I r h
  obtain ⟨a, dx, fs, rfl, ha, hsp⟩ := h
  rw [Vals.ref1 r]
  obtain ⟨f, fd, ps, ds, dvs, F, hc, hm, hb, hv, hd⟩ := F
  obtain ⟨mA, J, _⟩ := ins_get I.hok ha
  obtain ⟨od, J, _⟩ := J.look
  have dn := dvs_nil hd
  subst dn
  refine Calls.call_function_entry kind_len plain_len entry_len (args_len1 _) ?_
  unfold Builtin.«len»
  refine wpAny_bind (m := oneArg "len" _) (wpAny_pure ?_)
  refine wpAny_bind (m := callSpecial? (.ref a) (PySem.Str.ofString "__len__")) (PySem.W.special_fn I.kIn J hm.at_ (beq_iff_eq.mp hm.fn) (thn (run_gA (A := X.A.in1) (us := [.ref a]) (vs := [.ref a]) rfl F hr.in1 hb hv takesW0 I (.cons rfl .nil) (by rw [List.append_nil]; exact hsp)) fun w s' z => ?_))
  obtain ⟨z, H', I', rz, n, rfl, n0, n1, q⟩ := z
  obtain ⟨t, rfl⟩ := rz
  refine wpAny_bind (wpAny_holding (wpAny_pure ?_))
  refine wpAny_bind (wpAny_letGo ?_)
  show wpAny _ _ (if n < 0 then _ else _) _ _ _
  rw [if_neg (by omega)]
  show wpAny _ _ (if n ≥ 2 ^ 63 then _ else _) _ _ _
  rw [if_neg (by omega)]
  exact wpAny_bind (wpAny_mkInt (wpAny_pure ⟨_, rfl, .int n, H', I'.tok _, ⟨_, rfl⟩, q⟩))
theorem qe_lenC (F : FM X.prog X.w X.kw X.mg X.base k c "__len__" [] g) (hr : RoomG (k + 1) X.A) (hm : X.mg "len" = none) (ho : QE X W o fo) (hg : Gl X "len" := by rfl)
    (he : starEach [o] X.env = (false, eval o X.env) :: starEach [] X.env := by rfl) : QE X W (.Call (.Name "len" p) [o] [] pos) (eLenC c g fo) :=
  pe_imp (pe_callB (call_lenC F hr) hg hm (by decide +kernel) (pa_cons ho pa_nil he) (by decide) (by decide) he (by rfl)) fun σ H Q q => by
  refine Rdg.bind (R := VR X.kw) (k := fun _ => kLenC c g) q fun L0 io0 H0 L io H1 ev S d v fr rv q1 => ?_
  clear q
  unfold kLenC at q1
  cases h1 : insOf S d with
  | none => rw [h1] at q1; exact q1.elim
  | some z =>
    obtain ⟨c', fs⟩ := z
    rw [h1] at q1
    simp only at q1
    split at q1
    · rename_i hc'
      subst hc'
      obtain ⟨p, dx, vs, rfl, e1⟩ := insOf_ty fr.st (.inl rv) h1
      refine ⟨p, dx, vs, rfl, e1, L, io, S, [d], fr.st, .cons rv .nil, ?_⟩
      cases h2 : g S [d] with
      | no => rw [h2] at q1; exact q1.elim
      | ex c fs S' => rw [h2] at q1; exact q1.elim
      | ok r S' =>
        rw [h2] at q1
        cases r with
        | int n =>
          simp only [lenR] at q1
          split at q1
          · rename_i hn
            intro v H' io' s sr r
            cases r
            exact ⟨n, rfl, hn.1, hn.2, q1 _ H' _ io' s sr (.int _)⟩
          · exact q1.elim
        | _ => exact q1.elim
    · exact q1.elim
end
@[simp] theorem ev_lenC {c : Str} {g : DF} {fo : DE} {e : Env} {S : Sto} : eLenC c g fo e S = bnd (fo e S) (kLenC c g) := rfl
@[simp] theorem kLenC_obj (c : Str) (g : DF) (fs : List (Str × Dv)) (S : Sto) : kLenC c g (.obj c fs) S = lenR (g S [.obj c fs]) := by
  unfold kLenC
  simp only [insOf, if_true]
end DL
namespace DL
open PySem PyProof.Rows L2
/-- sorted(set(x)), x a list of texts, few of them distinct -/
def srtSetBK (l : List Dv) (S : Sto) : Res (List Dv) := match l with
  | [d] => match (asL S d).bind strsD with
    | some ws => if (TX.srtS ws).length ≤ 4000 then .ok ((TX.srtS ws).map Dv.str) S else .no
    | none => .no
  | _ => .no
def fSrtSetB (fa : DA) : DL := fun e S => bnd (fa e S) srtSetBK
/-- sorted(set(x)), x a list of ints -/
def srtSetIBK (l : List Dv) (S : Sto) : Res (List Dv) := match l with
  | [d] => match (asL S d).bind intsD with
    | some ws => if (TI.srtI ws).length < 64 then .ok ((TI.srtI ws).map Dv.int) S else .no
    | none => .no
  | _ => .no
def fSrtSetIB (fa : DA) : DL := fun e S => bnd (fa e S) srtSetIBK
@[simp] theorem ev_srtSetB {fa : DA} {e : Env} {S : Sto} : fSrtSetB fa e S = bnd (fa e S) srtSetBK := rfl
@[simp] theorem ev_srtSetIB {fa : DA} {e : Env} {S : Sto} : fSrtSetIB fa e S = bnd (fa e S) srtSetIBK := rfl
end DL
namespace DL
open PySem L2
mutual
inductive NkV (K : PySem.W.Frag) (H : Hp) : V → NestedKey → Prop
  | non : NkV K H .non .none
  | int (i : Int) : NkV K H (.int i) (.num i)
  | str (x : Str) : NkV K H (.str x) (.text x)
  | tup {a : Addr} {xs : List V} {ks : List NestedKey} : SqT K H a xs → NkVs K H xs ks → NkV K H (.ref a) (.tup ks)
inductive NkVs (K : PySem.W.Frag) (H : Hp) : List V → List NestedKey → Prop
  | nil : NkVs K H [] []
  | cons {v : V} {vs : List V} {k : NestedKey} {ks : List NestedKey} : NkV K H v k → NkVs K H vs ks → NkVs K H (v :: vs) (k :: ks)
end
def KyG (K : PySem.W.Frag) (H : Hp) (b : Addr) (k : NestedKey) : Prop := NkV K H (.ref b) k ∧ k.depth ≤ 8
structure DnG (K : PySem.W.Frag) (w : World) (H : Hp) (a : Addr) (es : List (NestedKey × Addr × V)) : Prop where
  at_ : H a = some (dnO w a es)
  ky : ∀ p ∈ es, KyG K H p.2.1 p.1
/-- .. or locked *-/
structure DnR (K : PySem.W.Frag) (w : World) (H : Hp) (a : Addr) (es : List (NestedKey × Addr × V)) : Prop where
  at_ : Rd H a (dnO w a es)
  ky : ∀ p ∈ es, KyG K H p.2.1 p.1
theorem DnG.r {K : PySem.W.Frag} {w : World} {H : Hp} {a : Addr} {es : List (NestedKey × Addr × V)} (g : DnG K w H a es) : DnR K w H a es := ⟨.inl g.at_, g.ky⟩
def atE (es : List (NestedKey × Addr × V)) (k : NestedKey) : Option V := (es.find? fun p => decide (p.1 = k)).map fun p => p.2.2
def putE (es : List (NestedKey × Addr × V)) (k : NestedKey) (b : Addr) (v : V) : List (NestedKey × Addr × V) := if (atE es k).isSome then es.map fun p => if p.1 = k then (p.1, p.2.1, v) else p else es ++ [(k, b, v)]
def EnV : List (NestedKey × Addr × V) → List (NestedKey × Addr × Value) → Prop := Paired fun p x => x.1 = p.1 ∧ x.2.1 = p.2.1 ∧ RelV p.2.2 x.2.2
theorem EnV.len : ∀ {es : List (NestedKey × Addr × V)} {xs : List (NestedKey × Addr × Value)}, EnV es xs → xs.length = es.length
  | _, _, .nil => rfl
  | _, _, .cons r t => by rw [List.length_cons, List.length_cons, EnV.len t]
theorem EnV.at_ (k : NestedKey) : ∀ {es : List (NestedKey × Addr × V)} {xs : List (NestedKey × Addr × Value)}, EnV es xs → (atKey xs k).isSome = (atE es k).isSome ∧ ∀ v, atE es k = some v → ∃ p, atKey xs k = some p ∧ RelV v p.2
  | _, _, .nil => ⟨rfl, fun _ h => nomatch h⟩
  | p :: es, x :: xs, .cons r t => by
    have ih := EnV.at_ k t
    unfold atKey atE at ih ⊢
    rw [List.find?_cons, List.find?_cons, r.1]
    by_cases h : p.1 = k
    · simp only [decide_eq_true h]
      exact ⟨rfl, fun v e => by cases e; exact ⟨_, rfl, r.2.2⟩⟩
    · simp only [decide_eq_false h]
      exact ih
theorem EnV.map_put {k : NestedKey} {v : V} {u : Value} (rv : RelV v u) : ∀ {es : List (NestedKey × Addr × V)} {xs : List (NestedKey × Addr × Value)}, EnV es xs → EnV (es.map fun p => if p.1 = k then (p.1, p.2.1, v) else p) (xs.map (putAt k u))
  | _, _, .nil => .nil
  | p :: es, x :: xs, .cons r t => by
    refine .cons ?_ (EnV.map_put rv t)
    unfold putAt
    simp only [r.1]
    by_cases h : p.1 = k
    · simp only [if_pos h]; exact ⟨trivial, r.2.1, rv⟩
    · simp only [if_neg h]; exact r
theorem EnV.app {k : NestedKey} {b : Addr} {v : V} {u : Value} (rv : RelV v u) : ∀ {es : List (NestedKey × Addr × V)} {xs : List (NestedKey × Addr × Value)}, EnV es xs → EnV (es ++ [(k, b, v)]) (xs ++ [(k, b, u)])
  | _, _, .nil => .cons ⟨rfl, rfl, rv⟩ .nil
  | _, _, .cons r t => .cons r (EnV.app rv t)
theorem EnV.put {k : NestedKey} {b : Addr} {v : V} {u : Value} (rv : RelV v u) {es : List (NestedKey × Addr × V)} {xs : List (NestedKey × Addr × Value)} (h : EnV es xs) : EnV (putE es k b v) (storedH xs k b u) := by
  unfold putE storedH
  rw [(h.at_ k).1]
  split
  · exact h.map_put rv
  · exact h.app rv
end DL
namespace DL
open PySem L2
def lookN (l : List (Dv × Dv)) (k : NestedKey) : Option Dv := (l.find? fun p => decide (nkT p.1 = some k)).map fun p => p.2
def putN (l : List (Dv × Dv)) (d : Dv) (k : NestedKey) (v : Dv) : List (Dv × Dv) := if (lookN l k).isSome then l.map fun p => if nkT p.1 = some k then (p.1, v) else p else l ++ [(d, v)]
def prs : List Dv → List (Dv × Dv)
  | k :: d :: l => (k, d) :: prs l
  | _ => []
theorem prs_fl : ∀ l : List (Dv × Dv), prs (flD l) = l
  | [] => rfl
  | p :: l => by show (p.1, p.2) :: prs (flD l) = _; rw [prs_fl l]
def ndl (l : List (Dv × Dv)) : Dv := .ext 6 "" [] (flD l)
def nAt (S : Sto) (d : Dv) : Option (List (Dv × Dv)) := match d with
  | .hdl j => (match S[j]? with
    | some (.dcn l) => some l
    | _ => none)
  | _ => none
section
variable {X : Cx} {W : WX} {pos pos' : Pos} {o i a : Expr} {f f1 f2 fv fo fi : DE} {kk : Nat} {ty td tv : TE}
def nputH (S : Sto) (o i v : Dv) : Option Sto := match o with
  | .hdl j => (match S[j]? with
    | some (.dcn l) => (nkT i).bind fun k => if l.length < sizeLine then some (S.set j (.dcn (putN l i k v))) else none
    | _ => none)
  | _ => none
def sNPut (fo fi fv : DE) : DS := sBind fv fun e v S1 => sBind fo (fun e o S2 => sBind fi (fun e i S3 => match nputH S3 o i v with
  | some S4 => .nx e S4
  | none => .no) e S2) e S1
def eNewN : DE := fun _ S => .ok (.hdl S.length) (S ++ [.dcn []])
def kNDef2 (d k x : Dv) (S : Sto) : Res Dv := match d with
  | .hdl j => (match S[j]? with
    | some (.dcn l) => (match nkT k with
      | some q => if l.length < sizeLine then (match lookN l q with
        | some v => .ok v S
        | none => .ok x (S.set j (.dcn (putN l k q x)))) else .no
      | none => .no)
    | _ => .no)
  | _ => .no
def kNDef1 (fk fx : DE) (e : Env) (d : Dv) (S : Sto) : Res Dv := if (nAt S d).isSome = true then bnd (fk e S) (fun k S2 => bnd (fx e S2) fun x S3 => kNDef2 d k x S3) else .no
def eNDef (fd fk fx : DE) : DE := fun e S => bnd (fd e S) (kNDef1 fk fx e)
end
end DL
namespace DL
open PySem PySem.Spec PyProof.Rows L2
def lenSetIK (l : List Dv) (S : Sto) : Res Dv := match l with
  | [d] => (match (asL S d).bind intsD with
    | some ws => if ws.length ≤ 4000 then .ok (.int (TI.srtI ws).length) S else .no
    | none => .no)
  | _ => .no
def eLenSetI (fa : DA) : DE := fun e S => bnd (fa e S) lenSetIK
def kKDef2 (d k x : Dv) (S : Sto) : Res Dv := match d with
  | .hdl j => (match S[j]? with
    | some (.dct l) => (match keyD k with
      | some q => if l.length < sizeLine then (match valD l q with
        | some v => .ok v S
        | none => .ok x (S.set j (.dct (putD l q x)))) else .no
      | none => .no)
    | _ => .no)
  | _ => .no
def kAt (S : Sto) (d : Dv) : Bool := match d with
  | .hdl j => (match S[j]? with
    | some (.dct _) => true
    | _ => false)
  | _ => false
def kKDef1 (fk fx : DE) (e : Env) (d : Dv) (S : Sto) : Res Dv := if kAt S d = true then bnd (fk e S) (fun k S2 => bnd (fx e S2) fun x S3 => kKDef2 d k x S3) else .no
def eKDef (fd fk fx : DE) : DE := fun e S => bnd (fd e S) (kKDef1 fk fx e)
theorem bounds_any (lo hi : Option Int) (n : Nat) : sliceBounds lo hi none n = (((HT.sIx n 0 lo : Nat) : Int), ((HT.sIx n n hi : Nat) : Int), 1) := by
  unfold sliceBounds
  simp only [Option.getD_none, show (1 : Int) > 0 by decide, if_true]
  have cl : ∀ (v : Int) (d : Nat), max 0 (min (if v < 0 then v + (n : Int) else v) (n : Int)) = ((HT.sIx n d (some v) : Nat) : Int) := fun v d => by
    rw [← HT.clip_eq v n d]
    by_cases hv : v < 0
    · simp only [if_pos hv]; omega
    · simp only [if_neg hv]; omega
  refine Prod.ext ?_ (Prod.ext ?_ rfl)
  · cases lo with
    | none => rfl
    | some v => exact cl v 0
  · cases hi with
    | none => rfl
    | some v => exact cl v n
section
variable {prog : Program} {w : World} {A : Around} {E : Value → Shared → Prop} {s : Shared}
theorem set_cut {a b c : Addr} {xs ys : Array Value} {n m : Nat} {u v : Value} {lo hi : Option Int} {Q : Unit → Shared → Prop}
    (e1 : s.heap.get? a = some { cls := .type "list", data := .seq xs n }) (e2 : s.heap.get? b = some { cls := .type "list", data := .seq ys m }) (ne : a ≠ b) (sl : s.heap.IsSliceOf c u v .none) (p1 : IsPart u lo) (p2 : IsPart v hi)
    (le : HT.sIx xs.size 0 lo ≤ HT.sIx xs.size xs.size hi) (le2 : HT.sIx xs.size xs.size hi ≤ xs.size) (sz : xs.size + ys.size ≤ sizeLine)
    (q : Q () { s with heap := s.heap.update a (Obj.mapSeq fun xs' => xs'.extract 0 (HT.sIx xs.size 0 lo) ++ ys ++ xs'.extract (HT.sIx xs.size xs.size hi) xs'.size) }) : wpAny (model prog w) A (setItem (.ref a) (.ref c) (.ref b)) Q E s := by
  have i1 := PySem.IsL.isList e1
  have i2 := PySem.IsL.isList e2
  obtain ⟨os, ho, hc, hd⟩ := id sl
  have tc : s.TypeIs (.ref c) "slice" := ⟨os, ho, hc⟩
  have st : ¬ ((rawPart none == rawInt 0) = true) := Bool.false_ne_true
  have sm : Builtin.List.listSameRef (.ref a) (.ref b) = false := by unfold Builtin.List.listSameRef; exact beq_eq_false_iff_ne.mpr ne
  generalize eq1 : HT.sIx xs.size 0 lo = i at *
  generalize eq2 : HT.sIx xs.size xs.size hi = j at *
  have mx : (max (i : Int) (j : Int)).toNat = j := by omega
  have sz2 : ((fun xs : Array Value => xs.extract 0 i ++ ys ++ xs.extract j xs.size) xs).size ≤ sizeLine + 1 := by
    simp only [Array.size_append, Array.size_extract]; omega
  unfold setItem
  try with_reducible refine wpAny_holding ?_
  first | refine wpAny_bind (wpAny_pure ?_) | skip
  refine wpAny_bind (wpAny_sequenceKey i1.typeIs (by decide) (wpAny_bind (wpAny_callSpecial?_slot (name := Str.ofString "__setitem__") i1.typeIs PySem.F.slot_list_setitem (wpAny_call_entry PySem.F.slot_list_setitem i1.typeIs PySem.F.entry_list_setitem ?_ (PySem.F.args_list_setitem_3 _ _ _)))))
  show wpAny _ _ (Builtin.List.listSubscript? (.ref c) >>= _) _ _ s
  refine wpAny_bind ?_
  unfold Builtin.List.listSubscript?
  refine wpAny_bind (wpAny_specialOf tc slice_no_index ?_)
  simp only [Option.isNone_none, if_true]
  refine wpAny_pure (show wpAny _ _ (typeOf (.ref c) >>= _) _ _ s from wpAny_bind (wpAny_typeOf tc ?_))
  first
    | rw [if_neg (by decide)]
    | refine PySem.W.KFB.if_not (by decide) ?_
  rw [listSliceParts_eq]
  refine wpAny_bind (wpAny_bind (wpAny_field ho hd (x := .none) rfl (wpAny_bind (wpAny_listPart .none ?_))))
  rw [if_neg st]
  refine wpAny_bind (wpAny_field ho hd (x := u) rfl (wpAny_bind (wpAny_listPart p1 (wpAny_bind (wpAny_field ho hd (x := v) rfl (wpAny_bind (wpAny_listPart p2 (wpAny_pure ?_))))))))
  first
    | simp only [sm, Bool.false_eq_true, if_false]
    | refine PySem.W.KFB.if_not sm ?_
    | (dsimp only; rw [if_neg (by rw [sm]; exact Bool.false_ne_true)])
  refine wpAny_bind (m := Builtin.List.listAllItems (.ref b) "must assign iterable to extended slice") ?_
  unfold Builtin.List.listAllItems
  refine wpAny_bind (wpAny_typeOf i2.typeIs ?_)
  first
    | refine PySem.W.KFB.if_so (by decide) ?_
    | rw [if_pos (by decide)]
    | simp only [beq_self_eq_true, Bool.true_or, if_true]
  unfold Builtin.List.listItems
  refine wpAny_bind (wpAny_seqItems e2 rfl (wpAny_pure (wpAny_bind (wpAny_bind (wpAny_seqItems e1 rfl (wpAny_pure ?_))))))
  have be := bounds_any lo hi xs.size
  rw [eq1, eq2] at be
  refine wpAny_bind (wpAny_of_eq ((sliceIndices_raw lo hi none xs.size (by simp)).trans (congrArg (pure : Int × Int × Int → Sem (Int × Int × Int)) be)) ?_)
  show wpAny _ _ (if ((1 : Int) == 1) = true then _ else _) _ _ s
  rw [if_pos (by decide)]
  refine wpAny_bind (wpAny_rule ?_)
  first
    | simp only [notLongL sz, Bool.false_eq_true, if_false]
    | refine PySem.W.KFB.if_not (notLongL sz) ?_
  first | refine wpAny_bind (wpAny_pure ?_) | skip
  show wpAny _ _ (updateSeq a (fun xs => xs.extract 0 ((i : Int)).toNat ++ ys ++ xs.extract (max (i : Int) (j : Int)).toNat xs.size) >>= _) _ _ s
  rw [mx, Int.toNat_natCast]
  refine wpAny_bind (wpAny_updateSeq (hz := Nat.le_trans (Nat.le_add_right _ _) sz) (_hz' := sz2) e1 rfl ?_)
  refine wpAny_bind (wpAny_letGo ?_)
  first
    | exact wpAny_bind (wpAny_pure (wpAny_pure ⟨.none, rfl, wpAny_pure q⟩))
    | exact wpAny_pure ⟨.none, rfl, wpAny_pure q⟩
end
def sCutT (to tv : TE) (tl th : TO) : TS := fun D σ H => tv σ H fun v H1 => to σ H1 fun x H2 => tl σ H2 fun l H3 => th σ H3 fun u H4 => ∃ (a b : Addr) (xs ys : List V), v = .ref b ∧ x = .ref a ∧ H4 a = some (.lst xs) ∧ H4 b = some (.lst ys) ∧ a ≠ b ∧
  HT.sIx xs.length 0 l ≤ HT.sIx xs.length xs.length u ∧ HT.sIx xs.length xs.length u ≤ xs.length ∧ xs.length + ys.length ≤ sizeLine ∧ D.nx σ (upd H4 a (.lst (xs.take (HT.sIx xs.length 0 l) ++ ys ++ xs.drop (HT.sIx xs.length xs.length u))))
section
variable {X : Cx} {W : WX} {o v : Expr} {lo hi : Option Expr} {to tv : TE} {tl th : TO} {pos pos' p2 : Pos} {fo fv : DE} {fl fh : DO}
theorem ps_cut (ho : PE X o to) (hl : PO X lo tl) (hh : PO X hi th) (hv : PE X v tv) (hs : swapsWith v (some (.Subscript o (.Slice lo hi none p2) pos')) pos.line X.env = pure false) : PS X (.Assign [.Subscript o (.Slice lo hi none p2) pos'] v pos) (sCutT to tv tl th) := by
  refine ⟨fun pins s σ H D I h => ?_⟩
  refine wpAny_Assign_Subscript (thn (hv.run pins s σ H _ I h) fun r s1 ⟨v, H1, I1, rv, q1⟩ => thn (ho.run pins s1 σ H1 _ I1 q1) fun ov s2 ⟨x, H2, I2, rx, q2⟩ => wpAny_Slice (thn (hl.run pins s2 σ H2 _ I2 q2) fun vl s3 ⟨l, H3, I3, pl, q3⟩ => thn (hh.run pins s3 σ H3 _ I3 q3) fun vu s4 ⟨u, H4, I4, pu, q4⟩ => ?_)) hs
  rw [evalPart_none]
  refine wpAny_pure ?_
  obtain ⟨a, b, xs, ys, rfl, rfl, ha, hb, ne, le, le2, sz, q⟩ := q4
  obtain rfl : r = Value.ref b := rv
  obtain rfl : ov = Value.ref a := rx
  have I5 : Inv X pins σ H4 { s4 with heap := s4.heap.push { cls := .type "slice", data := .fields #[vl, vu, .none] } } := I4.kept (t' := s4.toks) fun b ob q => Heap.get?_push_of_some _ q
  obtain ⟨z, its, n, rr, hlen, e⟩ := I5.lstM ha
  obtain ⟨z2, its2, n2, r2, hlen2, e2⟩ := I5.lstM hb
  have k1 : its.toArray.size = xs.length := by rw [List.size_toArray]; exact hlen.symm
  refine set_cut e e2 ne (Heap.IsSliceOf.new ..) pl pu (by rw [k1]; exact le) (by rw [k1]; exact le2) (by rw [k1, List.size_toArray, ← hlen2]; exact sz) ?_
  rw [k1]
  refine ⟨σ, _, I5.lset (its' := its.take (HT.sIx xs.length 0 l) ++ its2 ++ its.drop (HT.sIx xs.length xs.length u)) (t' := s4.toks) ha e (splice_eq its its2 _ _) (Vals.append (Vals.append (rr.take _) r2) (rr.drop _)) ?_, q⟩
  rw [List.length_append, List.length_append, List.length_take, List.length_drop]
  omega
def cutPut (S : Sto) (o v : Dv) (l u : Option Int) : Option Sto := match o, v with
  | .hdl k, .lst m => (match S[k]? with
    | some (.lst xs) => if HT.sIx xs.length 0 l ≤ HT.sIx xs.length xs.length u ∧ HT.sIx xs.length xs.length u ≤ xs.length ∧ xs.length + m.length ≤ sizeLine then some (S.set k (.lst (xs.take (HT.sIx xs.length 0 l) ++ m ++ xs.drop (HT.sIx xs.length xs.length u)))) else none
    | _ => none)
  | _, _ => none
def kCutP (e : Env) (o v : Dv) (l u : Option Int) (S : Sto) : Out := match cutPut S o v l u with
  | some S5 => .nx e S5
  | none => .no
def sCutP (fo fv : DE) (fl fh : DO) : DS := sBind fv fun e v S1 => sBind fo (fun e o S2 => sBind fl (fun e l S3 => sBind fh (fun e u S4 => kCutP e o v l u S4) e S3) e S2) e S1
theorem qs_cutP (ho : QE X W o fo) (hl : QO X W lo fl) (hh : QO X W hi fh) (hv : QE X W v fv) (hs : swapsWith v (some (.Subscript o (.Slice lo hi none p2) pos')) pos.line X.env = pure false := by rfl) :
    QS X W (.Assign [.Subscript o (.Slice lo hi none p2) pos'] v pos) (sCutP fo fv fl fh) := ps_imp (ps_cut ho hl hh hv hs) fun D g H h => by
  refine rds_bind (R := VR X.kw) (k := fun e v S1 => sBind fo (fun e o S2 => sBind fl (fun e l S3 => sBind fh (fun e u S4 => kCutP e o v l u S4) e S3) e S2) e S1) h fun L0 io0 H0 L io H1 e S dv vv fr rv q => ?_
  refine outR.bind (R := VR X.kw) (k := fun e o S2 => sBind fl (fun e l S3 => sBind fh (fun e u S4 => kCutP e o dv l u S4) e S3) e S2) fr q fun L2 io2 H2 S2 od ov s2 fr2 ro q2 => ?_
  refine outR.bind (R := fun _ _ _ (v : Option Int) d => v = d) (k := fun e l S3 => sBind fh (fun e u S4 => kCutP e od dv l u S4) e S3) fr2 q2 fun L3 io3 H3 S3 l l' s3 fr3 rl q3 => ?_
  refine outR.bind (R := fun _ _ _ (v : Option Int) d => v = d) (k := fun e u S4 => kCutP e od dv l u S4) fr3 q3 fun L4 io4 H4 S4 u u' s4 fr4 ru q4 => ?_
  subst rl ru
  have ro4 := (ro.step s3 fr2.st.sub).step s4 fr3.st.sub
  have rv4 := ((rv.step s2 fr.st.sub).step s3 fr2.st.sub).step s4 fr3.st.sub
  unfold kCutP at q4
  cases hn : cutPut S4 od dv l' u' with
  | none => rw [hn] at q4; exact q4.elim
  | some S5 =>
    rw [hn] at q4
    unfold cutPut at hn
    split at hn
    · rename_i k m
      split at hn
      · rename_i xs hS
        split at hn
        · rename_i hc
          cases hn
          cases ro4 with
          | hdl hk =>
            rename_i p
            cases rv4 with
            | lst nl hb t =>
              rename_i b ys
              obtain ⟨xv, e1, r1⟩ := fr4.st.obj k p _ hk hS
              have ma : p ∈ io4 := List.mem_of_getElem? hk
              have ne : p ≠ b := fun z => nl (z ▸ fr4.st.sub p ma)
              have k1 := r1.len
              have k2 := t.len
              refine ⟨p, b, xv, ys, rfl, rfl, e1, hb, ne, by rw [k1]; exact hc.1, by rw [k1]; exact hc.2.1, by rw [k1, k2]; exact hc.2.2, ?_⟩
              rw [k1]
              have s5 : Stp L4 io4 H4 L4 io4 (upd H4 p (.lst (xv.take (HT.sIx xs.length 0 l') ++ ys ++ xv.drop (HT.sIx xs.length xs.length u')))) := Stp.mutH ma
              exact q4 g _ L4 io4 (s5.stw fr4.st.sub) (fr4.step s5 (fr4.st.setH hk ⟨_, upd_same, (((r1.take _).app t).app (r1.drop _)).mut (fr4.st.sub p ma)⟩))
        · cases hn
      · cases hn
    · cases hn
end
end DL
namespace DL
open PySem PySem.Spec PyProof.Rows L2
section
variable (S S' : Sto) (e e' : Env) (d d1 d2 d3 : Dv) (l : List (Dv × Dv)) (c : Str) (fs : List (Str × Dv)) (k : Nat) (q : NestedKey) (f : DE) (fo fi fv fx : DE) (fl fh : DO) (fa : DA) (els body : DS) (sub : List (Str × Bool))
@[simp] theorem ev_newN : eNewN e S = .ok (.hdl S.length) (S ++ [.dcn []]) := rfl
def qNP1 (fo fi : DE) (e : Env) (v : Dv) (S : Sto) : Out := kS (fun e o S2 => kS (fun e i S3 => kSet e (nputH S3 o i v)) e (fi e S2)) e (fo e S)
def qNP2 (fi : DE) (v : Dv) (e : Env) (o : Dv) (S : Sto) : Out := kS (fun e i S3 => kSet e (nputH S3 o i v)) e (fi e S)
def qNP3 (v o : Dv) (e : Env) (i : Dv) (S : Sto) : Out := kSet e (nputH S o i v)
@[simp] theorem ev_nput : sNPut fo fi fv e S = kS (qNP1 fo fi) e (fv e S) := by
  unfold sNPut; rw [ev_sbind]; congr 1
@[simp] theorem ev_np1 : qNP1 fo fi e d S = kS (qNP2 fi d) e (fo e S) := rfl
@[simp] theorem ev_np2 : qNP2 fi d e d1 S = kS (qNP3 d d1) e (fi e S) := rfl
@[simp] theorem ev_np3 : qNP3 d d1 e d2 S = kSet e (nputH S d1 d2 d) := rfl
/-- setdefault -/
def kND2 (fx : DE) (e : Env) (d k : Dv) (S : Sto) : Res Dv := bnd (fx e S) fun x S3 => kNDef2 d k x S3
def kND3 (d k : Dv) (x : Dv) (S : Sto) : Res Dv := kNDef2 d k x S
@[simp] theorem ev_ndef : eNDef fo fi fx e S = bnd (fo e S) (kNDef1 fi fx e) := rfl
@[simp] theorem ev_nd2 : kND2 fx e d d1 S = bnd (fx e S) (kND3 d d1) := rfl
def kKD2 (fx : DE) (e : Env) (d k : Dv) (S : Sto) : Res Dv := bnd (fx e S) fun x S3 => kKDef2 d k x S3
def kKD3 (d k : Dv) (x : Dv) (S : Sto) : Res Dv := kKDef2 d k x S
@[simp] theorem ev_kdef : eKDef fo fi fx e S = bnd (fo e S) (kKDef1 fi fx e) := rfl
@[simp] theorem ev_kd2 : kKD2 fx e d d1 S = bnd (fx e S) (kKD3 d d1) := rfl
/-- xs[i:j] = ys -/
def qCP1 (fo : DE) (fl fh : DO) (e : Env) (v : Dv) (S : Sto) : Out := sBind fo (fun e o S2 => sBind fl (fun e l S3 => sBind fh (fun e u S4 => kCutP e o v l u S4) e S3) e S2) e S
def qCP2 (fl fh : DO) (v : Dv) (e : Env) (o : Dv) (S : Sto) : Out := sBind fl (fun e l S3 => sBind fh (fun e u S4 => kCutP e o v l u S4) e S3) e S
def qCP3 (fh : DO) (v o : Dv) (e : Env) (l : Option Int) (S : Sto) : Out := sBind fh (fun e u S4 => kCutP e o v l u S4) e S
def qCP4 (v o : Dv) (l : Option Int) (e : Env) (u : Option Int) (S : Sto) : Out := kCutP e o v l u S
@[simp] theorem ev_cutP : sCutP fo fv fl fh e S = kS (qCP1 fo fl fh) e (fv e S) := ev_sbind ..
@[simp] theorem ev_cp1 : qCP1 fo fl fh e d S = kS (qCP2 fl fh d) e (fo e S) := ev_sbind ..
@[simp] theorem ev_cp2 : qCP2 fl fh d e d1 S = kS (qCP3 fh d d1) e (fl e S) := ev_sbind ..
@[simp] theorem ev_cp3 (lo : Option Int) : qCP3 fh d d1 e lo S = kS (qCP4 d d1 lo) e (fh e S) := ev_sbind ..
@[simp] theorem ev_cp4 (lo hi : Option Int) : qCP4 d d1 lo e hi S = kSet e (cutPut S d1 d lo hi) := by unfold qCP4 kCutP kSet; rfl
@[simp] theorem ev_lenSetI : eLenSetI fa e S = bnd (fa e S) lenSetIK := rfl
end
def emOk (K : PySem.W.Frag) (a : Addr) : Bool := match K.lookup a with
  | some ⟨.type "tuple", none, .seq its _, _⟩ => its.toList == []
  | _ => false
structure EmT (K : PySem.W.Frag) (a : Addr) : Prop where
  ok : emOk K a = true
theorem EmT.vr {K : Kw} {a : Addr} (h : EmT K a) (L : Addr → Prop) (io : List Addr) (H : Hp) : VR K L io H (.ref a) (.tup []) := by
  have h := h.ok
  unfold emOk at h
  split at h
  · rename_i its n sl e
    have hn : its.toList = [] := by
      cases h2 : its.toList with
      | nil => rfl
      | cons x l => rw [h2] at h; cases h
    have sz : its.size = 0 := by rw [← Array.length_toList, hn]; rfl
    refine .tupK ⟨fun H' => .inr ⟨_, its, n, e, rfl, rfl, by rw [sz]; exact Nat.zero_le _, by rw [hn]; exact .nil⟩, _, e, rfl, rfl⟩ .nil
  · cases h
def gTL (gs : DGs) : DG := fun d e => match asT d with
  | some l => gs l e
  | none => (asF d).bind fun l => gs l e
@[simp] theorem ev_gTL_t (gs : DGs) (l : List Dv) (e : Env) : gTL gs (.tup l) e = gs l e := rfl
@[simp] theorem ev_gTL_l (gs : DGs) (l : List Dv) (e : Env) : gTL gs (.lst l) e = gs l e := rfl
end DL
namespace DL
open PySem PySem.Spec PyProof.Rows L2
def kLendB (S : Sto) : Res Bool → Res Bool
  | .ok b _ => .ok b S
  | .ex c fs _ => if pureDf fs = true then .ex c fs S else .no
  | .no => .no
@[simp] theorem kLendB_ok (S S' : Sto) (b : Bool) : kLendB S (.ok b S') = .ok b S := rfl
end DL
namespace DL
open PySem PySem.Spec PyProof.Rows L2
def keysNK (d : Dv) (S : Sto) : Res (List Dv) := match d with
  | .ext 6 _ _ fl => .ok ((prs fl).map (·.1)) S
  | _ => .no
def itemsNK (d : Dv) (S : Sto) : Res (List Dv) := match d with
  | .ext 6 _ _ fl => .ok ((prs fl).map fun q => .tup [q.1, q.2]) S
  | _ => .no
def iNK (f : DE) : DL := fun e S => bnd (f e S) keysNK
def iNI (f : DE) : DL := fun e S => bnd (f e S) itemsNK
@[simp] theorem ev_iNK (f : DE) (e : Env) (S : Sto) : iNK f e S = bnd (f e S) keysNK := rfl
@[simp] theorem ev_iNI (f : DE) (e : Env) (S : Sto) : iNI f e S = bnd (f e S) itemsNK := rfl
@[simp] theorem keysNK_ok (l : List (Dv × Dv)) (S : Sto) : keysNK (ndl l) S = .ok (l.map (·.1)) S := by show Res.ok ((prs (flD l)).map (·.1)) S = _; rw [prs_fl]
@[simp] theorem itemsNK_ok (l : List (Dv × Dv)) (S : Sto) : itemsNK (ndl l) S = .ok (l.map fun q => .tup [q.1, q.2]) S := by show Res.ok ((prs (flD l)).map _) S = _; rw [prs_fl]
end DL
namespace DL
open PySem PySem.Spec PyProof.Rows L2
end DL
namespace L2
open PySem PySem.Spec PyProof.Rows
end L2
namespace DL
open PySem L2
end DL
namespace PySem
open Sem (wp)
abbrev ZF (h : Heap) (z TI TO : Addr) (x : Value) (f : Bool) : Prop :=
  h.get? z = some { cls := .type "zip", dict := none, data := .fields #[x, .bool f, .bool false, .ref TI, .ref TO], slots := #[] }
def Zo (x : Value) : Prop := x = .none ∨ ∃ T : Nat, x = rawInt T
section
variable {prog : Program} {w : World} {A : Around} {E : Value → Shared → Prop} {s : Shared} {z TI TO i1 i2 : Addr} {fp1 fp2 : List Addr} {n1 n2 i : Nat} {P1 P2 : Nat → Value → Prop} {St1 St2 : Nat → Heap → Prop} {a1 a2 x : Value} {f : Bool}
theorem zf_lia {a : Addr} {Q : Option Obj → Shared → Prop} (h : Q (s.heap.get? a) s) : wpAny (model prog w) A (loadIfAlive a) Q E s := fun _ _ _ => h
theorem zf_free {Q : Bool → Shared → Prop} (hz : ZF s.heap z TI TO x f) (hx : Zo x) (h1 : Q true s)
    (h2 : ∀ h' f', ZF h' z TI TO x f' → Heap.SameBut z s.heap h' → Q false { s with heap := h' }) : wpAny (model prog w) A (Builtin.SmallTypes.ownedTupleIsFree (.ref z)) Q E s := by
  rcases hx with rfl | ⟨T, rfl⟩
  · unfold Builtin.SmallTypes.ownedTupleIsFree
    exact wpAny_bind (wpAny_field hz rfl (x := .none) rfl (wpAny_pure h1))
  · cases hT : s.heap.get? T with
    | some o => exact wpAny_tupleHeld_zip hz hT fun h' a b => h2 h' true a b
    | none =>
      unfold Builtin.SmallTypes.ownedTupleIsFree
      refine wpAny_bind (wpAny_field hz rfl (x := rawInt T) rfl ?_)
      show wpAny _ _ (loadIfAlive ((T : Int).toNat) >>= _) _ _ _
      rw [Int.toNat_natCast]
      refine wpAny_bind (zf_lia ?_)
      rw [hT]
      simp only [Option.isNone_none, if_true]
      exact wpAny_pure h1
theorem zf_item {Q : Value → Shared → Prop} (S : ZipSep2 z TI TO i1 i2 fp1 fp2) (D1 : Draws prog w A i1 fp1 n1 P1 St1) (D2 : Draws prog w A i2 fp2 n2 P2 St2)
    (hz : ZF s.heap z TI TO x f) (hx : Zo x) (hTI : IsTupOf2 s.heap TI (.ref i1) (.ref i2)) (hTO : IsTupOf2 s.heap TO a1 a2) (st1 : St1 i s.heap) (st2 : St2 i s.heap) (l1 : i < n1) (l2 : i < n2)
    (hQ : ∀ x1 x2 h' tk x' f' b1 b2, P1 i x1 → P2 i x2 → ZF h' z TI TO x' f' → Zo x' → IsTupOf2 h' TO b1 b2 → St1 (i + 1) h' → St2 (i + 1) h' → IsTupOf2 h' s.heap.objs.size x1 x2 → h'.objs.size = s.heap.objs.size + 1 →
      (∀ c o, c ≠ z → c ≠ TO → c ≠ i1 → c ≠ i2 → s.heap.get? c = some o → h'.get? c = some o) → Q (.ref s.heap.objs.size) { s with heap := h', toks := tk }) :
    wpAny (model prog w) A (Builtin.«zip.__next__» ⟨[.ref z], []⟩) (fun fin s' => ∃ v, fin = .done (.ret v) ∧ Q v s') E s := by
  obtain ⟨hp, g, d, tk0, os⟩ := s
  show wpAny _ _ (field (.ref z) 2 >>= _) _ _ _
  refine wpAny_bind (wpAny_field hz rfl (x := .bool false) rfl ?_)
  show wpAny _ _ (field (.ref z) 3 >>= _) _ _ _
  refine wpAny_bind (wpAny_field hz rfl (x := .ref TI) rfl ?_)
  refine wpAny_bind (wpAny_seqItems hTI rfl ?_)
  show wpAny _ _ (Builtin.SmallTypes.ownedTupleIsFree (.ref z) >>= _) _ _ _
  refine wpAny_bind (zf_free hz hx ?_ fun g0 f0 hz0 hs0 => ?_)
  · simp only [if_true]
    refine wpAny_bind (wpAny_rule ?_)
    refine wpAny_bind (wpAny_field hz rfl (x := .ref TO) rfl ?_)
    refine wpAny_bind (wpAny_setField_rec hz (by simp) fun g0 hz0 hs0 => ?_)
    replace hz0 : ZF g0 z TI TO .ellipsis f := hz0
    replace hs0 : Heap.SameBut z hp g0 := hs0
    refine wpAny_bind ?_
    simp only [List.zipIdx_cons, List.zipIdx_nil, List.forIn_cons, List.forIn_nil]
    refine wpAny_bind (wpAny_bind (wpAny_onRaise ?_))
    show wpAny _ _ (Builtin.SmallTypes.nextOf (.ref i1) >>= _) _ _ ⟨g0, g, d, tk0, os⟩
    refine wpAny_bind (D1.item i _ _ _ l1 (D1.over st1 hs0 S.zf1) fun x1 p1 tk1 hx1 sn1 hp1 => wpAny_pure ?_)
    replace hp1 : Heap.SameBut i1 g0 p1 := hp1
    have u1 : IsTupOf2 p1 TO a1 a2 := hp1.extBut _ _ S.Ti1 (hs0.extBut _ _ S.TOz hTO)
    refine wpAny_bind (wpAny_seqItems (s := ⟨p1, g, d, tk1, os⟩) u1 rfl ?_)
    refine wpAny_bind (updateSeq_IsTupOf2 (s := ⟨p1, g, d, tk1, os⟩) u1 fun g1 t1 hs1 => ?_)
    replace t1 : IsTupOf2 g1 TO x1 a2 := t1
    replace hs1 : Heap.SameBut TO p1 g1 := hs1
    refine wpAny_bind (wpAny_letGo (wpAny_pure ?_))
    refine wpAny_bind (wpAny_bind (wpAny_onRaise ?_))
    show wpAny _ _ (Builtin.SmallTypes.nextOf (.ref i2) >>= _) _ _ ⟨g1, g, d, tk1, os⟩
    refine wpAny_bind (D2.item i _ _ _ l2 (D2.over (D2.over (D2.over st2 hs0 S.zf2) hp1 S.sep1_2) hs1 S.Tf2) fun x2 p2 tk2 hx2 sn2 hp2 => wpAny_pure ?_)
    replace hp2 : Heap.SameBut i2 g1 p2 := hp2
    have u2 : IsTupOf2 p2 TO x1 a2 := hp2.extBut _ _ S.Ti2 t1
    refine wpAny_bind (wpAny_seqItems (s := ⟨p2, g, d, tk2, os⟩) u2 rfl ?_)
    refine wpAny_bind (updateSeq_IsTupOf2 (s := ⟨p2, g, d, tk2, os⟩) u2 fun g2 t2 hs2 => ?_)
    replace t2 : IsTupOf2 g2 TO x1 x2 := t2
    replace hs2 : Heap.SameBut TO p2 g2 := hs2
    refine wpAny_bind (wpAny_letGo (wpAny_pure (wpAny_pure ?_)))
    refine wpAny_bind (wpAny_seqItems (s := ⟨g2, g, d, tk2, os⟩) t2 rfl ?_)
    refine wpAny_bind (wpAny_newTuple ?_)
    have hsz : g2.objs.size = hp.objs.size := by rw [hs2.1, hp2.1, hs1.1, hp1.1, hs0.1]
    have hzz : ZF g2 z TI TO .ellipsis f := hs2.extBut _ _ S.TOz.symm (hp2.extBut _ _ S.zi2 (hs1.extBut _ _ S.TOz.symm (hp1.extBut _ _ S.zi1 hz0)))
    have hkk : ∀ c o, c ≠ z → c ≠ TO → c ≠ i1 → c ≠ i2 → hp.get? c = some o → g2.get? c = some o := fun c o c0 c1 c2 c3 e =>
      hs2.extBut _ _ c1 (hp2.extBut _ _ c3 (hs1.extBut _ _ c1 (hp1.extBut _ _ c2 (hs0.extBut _ _ c0 e))))
    have j1 : St1 (i + 1) g2 := D1.over (D1.over (D1.over sn1 hs1 S.Tf1) hp2 S.sep2_1) hs2 S.Tf1
    have j2 : St2 (i + 1) g2 := D2.over sn2 hs2 S.Tf2
    have hzl : z < g2.objs.size := Heap.lt_size hzz
    show wpAny _ _ (Builtin.SmallTypes.ownedTupleHandOut (.ref z) (.ref g2.objs.size) >>= _) _ _ ⟨g2.push { cls := .type "tuple", data := .seq #[x1, x2] }, g, d, tk2, os⟩
    refine wpAny_bind ?_
    unfold Builtin.SmallTypes.ownedTupleHandOut
    have z6 : ZF (g2.push { cls := .type "tuple", data := .seq #[x1, x2] }) z TI TO .ellipsis f := Heap.get?_push_of_some _ hzz
    refine wpAny_bind (wpAny_setField_rec z6 (by simp) fun h7 z7 s7 => ?_)
    replace z7 : ZF h7 z TI TO (rawInt g2.objs.size) f := z7
    refine wpAny_setField_rec z7 (by simp) fun h8 z8 s8 => ?_
    replace z8 : ZF h8 z TI TO (rawInt g2.objs.size) false := z8
    replace s7 : Heap.SameBut z (g2.push { cls := .type "tuple", data := .seq #[x1, x2] }) h7 := s7
    replace s8 : Heap.SameBut z h7 h8 := s8
    have up : ∀ c o, c ≠ z → g2.get? c = some o → h8.get? c = some o := fun c o c1 e => s8.extBut _ _ c1 (s7.extBut _ _ c1 (Heap.get?_push_of_some _ e))
    have t8 : IsTupOf2 h8 g2.objs.size x1 x2 := s8.extBut _ _ (Nat.ne_of_gt hzl) (s7.extBut _ _ (Nat.ne_of_gt hzl) (Heap.get?_push_size _ rfl))
    have e8 : h8.objs.size = g2.objs.size + 1 := by rw [s8.1, s7.1, Heap.size_push]
    rw [hsz] at z8 t8 e8
    refine wpAny_pure ⟨_, rfl, ?_⟩
    show Q (.ref g2.objs.size) ⟨h8, g, d, tk2, os⟩
    rw [hsz]
    exact hQ x1 x2 h8 tk2 _ _ _ _ hx1 hx2 z8 (.inr ⟨_, rfl⟩) (up _ _ S.TOz t2) (D1.frame _ _ _ j1 fun b hb o e => up b o (fun q => S.zf1 (q ▸ hb)) e) (D2.frame _ _ _ j2 fun b hb o e => up b o (fun q => S.zf2 (q ▸ hb)) e) t8 e8 fun c o c0 c1 c2 c3 e => up c o c0 (hkk c o c0 c1 c2 c3 e)
  · replace hs0 : Heap.SameBut z hp g0 := hs0
    simp only [Bool.false_eq_true, if_false]
    refine wpAny_bind ?_
    rw [← Array.forIn_toList]
    simp only [List.forIn_cons, List.forIn_nil]
    refine wpAny_bind (wpAny_bind (wpAny_holding ?_))
    show wpAny _ _ (Builtin.SmallTypes.nextOf (.ref i1) >>= _) _ _ ⟨g0, g, d, tk0, os⟩
    refine wpAny_bind (D1.item i _ _ _ l1 (D1.over st1 hs0 S.zf1) fun x1 p1 tk1 hx1 sn1 hp1 => wpAny_pure ?_)
    replace hp1 : Heap.SameBut i1 g0 p1 := hp1
    refine wpAny_pure ?_
    refine wpAny_bind (wpAny_bind (wpAny_holding ?_))
    show wpAny _ _ (Builtin.SmallTypes.nextOf (.ref i2) >>= _) _ _ ⟨p1, g, d, tk1, os⟩
    refine wpAny_bind (D2.item i _ _ _ l2 (D2.over (D2.over st2 hs0 S.zf2) hp1 S.sep1_2) fun x2 p2 tk2 hx2 sn2 hp2 => wpAny_pure ?_)
    replace hp2 : Heap.SameBut i2 p1 p2 := hp2
    refine wpAny_pure (wpAny_pure ?_)
    show wpAny _ _ (newTuple [x1, x2] >>= _) _ _ ⟨p2, g, d, tk2, os⟩
    refine wpAny_bind (wpAny_newTuple ?_)
    have hsz : p2.objs.size = hp.objs.size := by rw [hp2.1, hp1.1, hs0.1]
    have hzz : ZF p2 z TI TO x f0 := hp2.extBut _ _ S.zi2 (hp1.extBut _ _ S.zi1 hz0)
    have hU : IsTupOf2 p2 TO a1 a2 := hp2.extBut _ _ S.Ti2 (hp1.extBut _ _ S.Ti1 (hs0.extBut _ _ S.TOz hTO))
    have up : ∀ c o, p2.get? c = some o → (p2.push { cls := .type "tuple", data := .seq #[x1, x2] }).get? c = some o := fun c o e => Heap.get?_push_of_some _ e
    have hkk : ∀ c o, c ≠ z → c ≠ TO → c ≠ i1 → c ≠ i2 → hp.get? c = some o → p2.get? c = some o := fun c o c0 c1 c2 c3 e => hp2.extBut _ _ c3 (hp1.extBut _ _ c2 (hs0.extBut _ _ c0 e))
    have j1 : St1 (i + 1) p2 := D1.over sn1 hp2 S.sep2_1
    refine wpAny_pure ⟨_, rfl, ?_⟩
    show Q (.ref p2.objs.size) ⟨p2.push { cls := .type "tuple", data := .seq #[x1, x2] }, g, d, tk2, os⟩
    have t8 : IsTupOf2 (p2.push { cls := .type "tuple", data := .seq #[x1, x2] }) p2.objs.size x1 x2 := Heap.get?_push_size _ rfl
    have e8 : (p2.push { cls := .type "tuple", data := .seq #[x1, x2] }).objs.size = p2.objs.size + 1 := Heap.size_push ..
    rw [hsz] at t8 e8 ⊢
    exact hQ x1 x2 _ tk2 _ _ _ _ hx1 hx2 (up _ _ hzz) hx (up _ _ hU) (D1.frame _ _ _ j1 fun b hb o e => up b o e) (D2.frame _ _ _ sn2 fun b hb o e => up b o e) t8 e8 fun c o c0 c1 c2 c3 e => up c o (hkk c o c0 c1 c2 c3 e)
theorem zf_end {Q : Fin → Shared → Prop} (S : ZipSep2 z TI TO i1 i2 fp1 fp2) (D1 : Draws prog w A i1 fp1 n1 P1 St1) (D2 : Draws prog w A i2 fp2 n2 P2 St2)
    (hz : ZF s.heap z TI TO x f) (hx : Zo x) (hTI : IsTupOf2 s.heap TI (.ref i1) (.ref i2)) (hTO : IsTupOf2 s.heap TO a1 a2) (st1 : St1 i s.heap) (st2 : St2 i s.heap) (le1 : i ≤ n1) (le2 : i ≤ n2) (hend : i = n1 ∨ i = n2)
    (hE : ∀ h' tk e, (∀ c o, c ≠ z → c ≠ TO → c ≠ i1 → c ≠ i2 → s.heap.get? c = some o → h'.get? c = some o) → (∃ o, h'.get? e = some o ∧ o.cls = .type "StopIteration") → E (.ref e) { s with heap := h', toks := tk }) :
    wpAny (model prog w) A (Builtin.«zip.__next__» ⟨[.ref z], []⟩) Q E s := by
  obtain ⟨hp, g, d, tk0, os⟩ := s
  show wpAny _ _ (field (.ref z) 2 >>= _) _ _ _
  refine wpAny_bind (wpAny_field hz rfl (x := .bool false) rfl ?_)
  show wpAny _ _ (field (.ref z) 3 >>= _) _ _ _
  refine wpAny_bind (wpAny_field hz rfl (x := .ref TI) rfl ?_)
  refine wpAny_bind (wpAny_seqItems hTI rfl ?_)
  show wpAny _ _ (Builtin.SmallTypes.ownedTupleIsFree (.ref z) >>= _) _ _ _
  refine wpAny_bind (zf_free hz hx ?_ fun g0 f0 hz0 hs0 => ?_)
  · simp only [if_true]
    refine wpAny_bind (wpAny_rule ?_)
    refine wpAny_bind (wpAny_field hz rfl (x := .ref TO) rfl ?_)
    refine wpAny_bind (wpAny_setField_rec hz (by simp) fun g0 hz0 hs0 => ?_)
    replace hz0 : ZF g0 z TI TO .ellipsis f := hz0
    replace hs0 : Heap.SameBut z hp g0 := hs0
    refine wpAny_bind ?_
    simp only [List.zipIdx_cons, List.zipIdx_nil, List.forIn_cons, List.forIn_nil]
    refine wpAny_bind (wpAny_bind (wpAny_onRaise ?_))
    show wpAny _ _ (Builtin.SmallTypes.nextOf (.ref i1) >>= _) _ _ ⟨g0, g, d, tk0, os⟩
    by_cases l1 : i < n1
    · refine wpAny_bind (D1.item i _ _ _ l1 (D1.over st1 hs0 S.zf1) fun x1 p1 tk1 hx1 sn1 hp1 => wpAny_pure ?_)
      replace hp1 : Heap.SameBut i1 g0 p1 := hp1
      have u1 : IsTupOf2 p1 TO a1 a2 := hp1.extBut _ _ S.Ti1 (hs0.extBut _ _ S.TOz hTO)
      refine wpAny_bind (wpAny_seqItems (s := ⟨p1, g, d, tk1, os⟩) u1 rfl ?_)
      refine wpAny_bind (updateSeq_IsTupOf2 (s := ⟨p1, g, d, tk1, os⟩) u1 fun g1 t1 hs1 => ?_)
      replace t1 : IsTupOf2 g1 TO x1 a2 := t1
      replace hs1 : Heap.SameBut TO p1 g1 := hs1
      refine wpAny_bind (wpAny_letGo (wpAny_pure ?_))
      have hi2 : i = n2 := by omega
      refine wpAny_bind (wpAny_bind (wpAny_onRaise ?_))
      show wpAny _ _ (Builtin.SmallTypes.nextOf (.ref i2) >>= _) _ _ ⟨g1, g, d, tk1, os⟩
      refine wpAny_bind (D2.done ⟨g1, g, d, tk1, os⟩ _ _ (by rw [← hi2]; exact (D2.over (D2.over (D2.over st2 hs0 S.zf2) hp1 S.sep1_2) hs1 S.Tf2)) fun q e hq he => ?_)
      replace hq : Heap.ExtBut i2 g1 q := hq
      obtain ⟨oe, hoe, hce⟩ := he
      replace hoe : q.get? e = some oe := hoe
      have hzq : ZF q z TI TO .ellipsis f := hq _ _ S.zi2 (hs1.extBut _ _ S.TOz.symm (hp1.extBut _ _ S.zi1 hz0))
      have hez : e ≠ z := fun y => by subst y; rw [hzq] at hoe; cases hoe; simp at hce
      refine wpAny_setField_rec (s := ⟨q, g, d, tk1, os⟩) hzq (by simp) fun q' _ hq' => ?_
      replace hq' : Heap.SameBut z q q' := hq'
      exact hE q' tk1 e (fun c o c0 c1 c2 c3 y => hq'.extBut _ _ c0 (hq _ _ c3 (hs1.extBut _ _ c1 (hp1.extBut _ _ c2 (hs0.extBut _ _ c0 y))))) ⟨oe, hq'.extBut _ _ hez hoe, hce⟩
    · have hi1 : i = n1 := by omega
      refine wpAny_bind (D1.done ⟨g0, g, d, tk0, os⟩ _ _ (by rw [← hi1]; exact (D1.over st1 hs0 S.zf1)) fun q e hq he => ?_)
      replace hq : Heap.ExtBut i1 g0 q := hq
      obtain ⟨oe, hoe, hce⟩ := he
      replace hoe : q.get? e = some oe := hoe
      have hzq : ZF q z TI TO .ellipsis f := hq _ _ S.zi1 hz0
      have hez : e ≠ z := fun y => by subst y; rw [hzq] at hoe; cases hoe; simp at hce
      refine wpAny_setField_rec (s := ⟨q, g, d, tk0, os⟩) hzq (by simp) fun q' _ hq' => ?_
      replace hq' : Heap.SameBut z q q' := hq'
      exact hE q' tk0 e (fun c o c0 c1 c2 c3 y => hq'.extBut _ _ c0 (hq _ _ c2 (hs0.extBut _ _ c0 y))) ⟨oe, hq'.extBut _ _ hez hoe, hce⟩
  · replace hs0 : Heap.SameBut z hp g0 := hs0
    simp only [Bool.false_eq_true, if_false]
    refine wpAny_bind ?_
    rw [← Array.forIn_toList]
    simp only [List.forIn_cons, List.forIn_nil]
    refine wpAny_bind (wpAny_bind (wpAny_holding ?_))
    show wpAny _ _ (Builtin.SmallTypes.nextOf (.ref i1) >>= _) _ _ ⟨g0, g, d, tk0, os⟩
    by_cases l1 : i < n1
    · have hi2 : i = n2 := by omega
      refine wpAny_bind (D1.item i _ _ _ l1 (D1.over st1 hs0 S.zf1) fun x1 p1 tk1 hx1 sn1 hp1 => wpAny_pure ?_)
      replace hp1 : Heap.SameBut i1 g0 p1 := hp1
      refine wpAny_pure ?_
      refine wpAny_bind (wpAny_bind (wpAny_holding ?_))
      show wpAny _ _ (Builtin.SmallTypes.nextOf (.ref i2) >>= _) _ _ ⟨p1, g, d, tk1, os⟩
      refine wpAny_bind (D2.done ⟨p1, g, d, tk1, os⟩ _ _ (by rw [← hi2]; exact D2.over (D2.over st2 hs0 S.zf2) hp1 S.sep1_2) fun q e hq he => ?_)
      exact hE q tk1 e (fun c o c0 c1 c2 c3 y => hq _ _ c3 (hp1.extBut _ _ c2 (hs0.extBut _ _ c0 y))) he
    · have hi1 : i = n1 := by omega
      refine wpAny_bind (D1.done ⟨g0, g, d, tk0, os⟩ _ _ (by rw [← hi1]; exact D1.over st1 hs0 S.zf1) fun q e hq he => ?_)
      exact hE q tk0 e (fun c o c0 c1 c2 c3 y => hq _ _ c2 (hs0.extBut _ _ c0 y)) he
end
end PySem
namespace PySem
open Sem (wp)
section
variable {prog : Program} {w : World} {A : Around} {E : Value → Shared → Prop} {s : Shared} {e z TI TO i1 i2 : Addr} {fp1 fp2 : List Addr} {n1 n2 i : Nat} {P1 P2 : Nat → Value → Prop} {St1 St2 : Nat → Heap → Prop} {a1 a2 x : Value} {f : Bool}
theorem zf_nextOf {Q : Value → Shared → Prop} (S : ZipSep2 z TI TO i1 i2 fp1 fp2) (D1 : Draws prog w A.in1 i1 fp1 n1 P1 St1) (D2 : Draws prog w A.in1 i2 fp2 n2 P2 St2)
    (hz : ZF s.heap z TI TO x f) (hx : Zo x) (hTI : IsTupOf2 s.heap TI (.ref i1) (.ref i2)) (hTO : IsTupOf2 s.heap TO a1 a2) (st1 : St1 i s.heap) (st2 : St2 i s.heap) (l1 : i < n1) (l2 : i < n2)
    (hQ : ∀ x1 x2 h' tk x' f' b1 b2, P1 i x1 → P2 i x2 → ZF h' z TI TO x' f' → Zo x' → IsTupOf2 h' TO b1 b2 → St1 (i + 1) h' → St2 (i + 1) h' → IsTupOf2 h' s.heap.objs.size x1 x2 → h'.objs.size = s.heap.objs.size + 1 →
      (∀ c o, c ≠ z → c ≠ TO → c ≠ i1 → c ≠ i2 → s.heap.get? c = some o → h'.get? c = some o) → Q (.ref s.heap.objs.size) { s with heap := h', toks := tk }) :
    wpAny (model prog w) A (Builtin.SmallTypes.nextOf (.ref z)) Q E s := by
  have hT : s.TypeIs (.ref z) "zip" := ⟨_, hz, rfl⟩
  unfold Builtin.SmallTypes.nextOf
  refine wpAny_bind (wpAny_callSpecial?_slot (name := Str.ofString "__next__") hT F.slot_zip_next
    (wpAny_call_entry F.slot_zip_next hT F.entry_zip_next ?_ (F.args_zip_next_1 _)))
  exact (zf_item S D1 D2 hz hx hTI hTO st1 st2 l1 l2 fun x1 x2 h' tk x' f' b1 b2 c1 c2 c3 c4 c5 c6 c7 c8 c9 c10 => wpAny_pure (hQ x1 x2 h' tk x' f' b1 b2 c1 c2 c3 c4 c5 c6 c7 c8 c9 c10))
theorem zf_nextOf_end {Q : Value → Shared → Prop} (S : ZipSep2 z TI TO i1 i2 fp1 fp2) (D1 : Draws prog w A.in1 i1 fp1 n1 P1 St1) (D2 : Draws prog w A.in1 i2 fp2 n2 P2 St2)
    (hz : ZF s.heap z TI TO x f) (hx : Zo x) (hTI : IsTupOf2 s.heap TI (.ref i1) (.ref i2)) (hTO : IsTupOf2 s.heap TO a1 a2) (st1 : St1 i s.heap) (st2 : St2 i s.heap) (le1 : i ≤ n1) (le2 : i ≤ n2) (hend : i = n1 ∨ i = n2)
    (hE : ∀ h' tk e, (∀ c o, c ≠ z → c ≠ TO → c ≠ i1 → c ≠ i2 → s.heap.get? c = some o → h'.get? c = some o) → (∃ o, h'.get? e = some o ∧ o.cls = .type "StopIteration") → E (.ref e) { s with heap := h', toks := tk }) :
    wpAny (model prog w) A (Builtin.SmallTypes.nextOf (.ref z)) Q E s := by
  have hT : s.TypeIs (.ref z) "zip" := ⟨_, hz, rfl⟩
  unfold Builtin.SmallTypes.nextOf
  refine wpAny_bind (wpAny_callSpecial?_slot (name := Str.ofString "__next__") hT F.slot_zip_next
    (wpAny_call_entry F.slot_zip_next hT F.entry_zip_next ?_ (F.args_zip_next_1 _)))
  exact zf_end S D1 D2 hz hx hTI hTO st1 st2 le1 le2 hend hE
/-- the enumerate's next pair: (i, the zip's next pair) -/
theorem ez_item {old : Value} {Q : Option Value → Shared → Prop} (S : ZipSep2 z TI TO i1 i2 fp1 fp2) (D1 : Draws prog w A.in1.in1 i1 fp1 n1 P1 St1) (D2 : Draws prog w A.in1.in1 i2 fp2 n2 P2 St2)
    (he : IsEnum s.heap e z (i : Int) old) (n0 : e ≠ z) (nI : e ≠ TI) (nO : e ≠ TO) (nf1 : e ∉ fp1) (nf2 : e ∉ fp2)
    (hz : ZF s.heap z TI TO x f) (hx : Zo x) (hTI : IsTupOf2 s.heap TI (.ref i1) (.ref i2)) (hTO : IsTupOf2 s.heap TO a1 a2) (st1 : St1 i s.heap) (st2 : St2 i s.heap) (l1 : i < n1) (l2 : i < n2)
    (hQ : ∀ x1 x2 h' tk tn x' f' b1 b2, P1 i x1 → P2 i x2 → IsEnumOut h' e z ((i : Int) + 1) (.ref s.heap.objs.size) (s.heap.objs.size + 1) → ZF h' z TI TO x' f' → Zo x' → IsTupOf2 h' TI (.ref i1) (.ref i2) → IsTupOf2 h' TO b1 b2 → St1 (i + 1) h' → St2 (i + 1) h' →
      IsTupOf2 h' s.heap.objs.size x1 x2 → IsTupOf2 h' (s.heap.objs.size + 1) (.int i tk) (.ref s.heap.objs.size) → h'.objs.size = s.heap.objs.size + 2 →
      (∀ c o, c ≠ e → c ≠ z → c ≠ TO → c ≠ i1 → c ≠ i2 → s.heap.get? c = some o → h'.get? c = some o) → Q (some (.ref (s.heap.objs.size + 1))) { s with heap := h', toks := tn }) :
    wpAny (model prog w) A (pyNext (.ref e)) Q E s := by
  have hT : s.TypeIs (.ref e) "enumerate" := ⟨_, he, rfl⟩
  unfold pyNext
  refine wpAny_bind (wpAny_attempt (wpAny_callSpecial?_slot (name := Str.ofString "__next__") hT F.slot_enumerate_next
    (wpAny_call_entry F.slot_enumerate_next hT F.entry_enumerate_next ?_ (F.args_enumerate_next_1 _))))
  obtain ⟨hp, g, d, tk0, os⟩ := s
  show wpAny _ _ (field (.ref e) 2 >>= _) _ _ _
  refine wpAny_bind (wpAny_field he rfl (x := .ref z) rfl ?_)
  refine wpAny_bind (zf_nextOf S D1 D2 hz hx hTI hTO st1 st2 l1 l2 fun x1 x2 h1 tk x' f' b1 b2 p1 p2 z1 zo t1 s1 s2 q1 sz1 k1 => ?_)
  replace z1 : ZF h1 z TI TO x' f' := z1
  replace q1 : IsTupOf2 h1 hp.objs.size x1 x2 := q1
  replace sz1 : h1.objs.size = hp.objs.size + 1 := sz1
  replace k1 : ∀ c o, c ≠ z → c ≠ TO → c ≠ i1 → c ≠ i2 → hp.get? c = some o → h1.get? c = some o := k1
  have ne1 : e ≠ i1 := fun q => nf1 (q ▸ S.mem1)
  have ne2 : e ≠ i2 := fun q => nf2 (q ▸ S.mem2)
  have e1 : IsEnum h1 e z (i : Int) old := k1 _ _ n0 nO ne1 ne2 he
  have hel : e < hp.objs.size := Heap.lt_size he
  have I1 : IsTupOf2 h1 TI (.ref i1) (.ref i2) := k1 _ _ S.TIz S.TITO S.TIi1 S.TIi2 hTI
  show wpAny _ _ (field (.ref e) 3 >>= _) _ _ ⟨h1, g, d, tk, os⟩
  refine wpAny_bind (wpAny_field e1 rfl (x := rawInt i) rfl ?_)
  show wpAny _ _ (field (.ref e) 4 >>= _) _ _ ⟨h1, g, d, tk, os⟩
  refine wpAny_bind (wpAny_field e1 rfl (x := .none) rfl ?_)
  show wpAny _ _ (mkInt i >>= _) _ _ ⟨h1, g, d, tk, os⟩
  refine wpAny_bind (wpAny_mkInt ?_)
  show wpAny _ _ (setField (.ref e) 3 (rawInt ((i : Int) + 1)) >>= _) _ _ ⟨h1, g, d, tk + 1, os⟩
  refine wpAny_bind (wpAny_setField_rec e1 (by simp) fun h2 e2 r2 => ?_)
  replace r2 : Heap.SameBut e h1 h2 := r2
  replace e2 : IsEnum h2 e z ((i : Int) + 1) old := e2
  show wpAny _ _ (setField (.ref e) 4 .none >>= _) _ _ ⟨h2, g, d, tk + 1, os⟩
  refine wpAny_bind (wpAny_setField_rec e2 (by simp) fun h3 e3 r3 => ?_)
  replace r3 : Heap.SameBut e h2 h3 := r3
  replace e3 : IsEnum h3 e z ((i : Int) + 1) old := e3
  show wpAny _ _ (newTuple [.int i tk, .ref hp.objs.size] >>= _) _ _ ⟨h3, g, d, tk + 1, os⟩
  refine wpAny_bind (wpAny_newTuple ?_)
  have e4 : IsEnum (h3.push { cls := .type "tuple", data := .seq #[.int i tk, .ref hp.objs.size] }) e z ((i : Int) + 1) old := Heap.get?_push_of_some _ e3
  generalize hh4 : h3.push { cls := .type "tuple", data := .seq #[.int i tk, .ref hp.objs.size] } = h4 at e4
  have hsz : h3.objs.size = hp.objs.size + 1 := by rw [r3.1, r2.1, sz1]
  have t4 : IsTupOf2 h4 (hp.objs.size + 1) (.int i tk) (.ref hp.objs.size) := by rw [← hh4, ← hsz]; exact Heap.get?_push_size _ rfl
  have z4 : h4.objs.size = hp.objs.size + 2 := by rw [← hh4, Heap.size_push, hsz]
  have k4 : ∀ c o, c ≠ e → h1.get? c = some o → h4.get? c = some o := fun c o c0 q => by
    rw [← hh4]; exact Heap.get?_push_of_some _ (r3.extBut c o c0 (r2.extBut c o c0 q))
  show wpAny _ _ (Builtin.SmallTypes.ownedTupleIsFree (.ref e) >>= _) _ _ ⟨h4, g, d, tk + 1, os⟩
  rw [hsz]
  refine wpAny_bind ?_
  unfold Builtin.SmallTypes.ownedTupleIsFree
  refine wpAny_bind (wpAny_field e4 rfl (x := .none) rfl (wpAny_pure ?_))
  simp only [if_true]
  refine wpAny_bind (wpAny_rule ?_)
  refine wpAny_bind (wpAny_field e4 rfl (x := old) rfl ?_)
  refine wpAny_bind (wpAny_setField_rec e4 (by simp) fun h5 e5 r5 => ?_)
  replace r5 : Heap.SameBut e h4 h5 := r5
  replace e5 : IsEnum h5 e z ((i : Int) + 1) (.ref hp.objs.size) := e5
  show wpAny _ _ (Builtin.SmallTypes.ownedTupleHandOut (.ref e) (.ref (hp.objs.size + 1)) >>= _) _ _ ⟨h5, g, d, tk + 1, os⟩
  refine wpAny_bind ?_
  unfold Builtin.SmallTypes.ownedTupleHandOut
  refine wpAny_bind (wpAny_setField_rec e5 (by simp) fun h6 e6 r6 => ?_)
  replace r6 : Heap.SameBut e h5 h6 := r6
  replace e6 : IsEnumOut h6 e z ((i : Int) + 1) (.ref hp.objs.size) (hp.objs.size + 1) := e6
  refine wpAny_setField_rec e6 (by simp) fun h7 e7 r7 => ?_
  replace r7 : Heap.SameBut e h6 h7 := r7
  replace e7 : IsEnumOut h7 e z ((i : Int) + 1) (.ref hp.objs.size) (hp.objs.size + 1) := e7
  have k7 : ∀ c o, c ≠ e → h4.get? c = some o → h7.get? c = some o := fun c o c0 q => r7.extBut c o c0 (r6.extBut c o c0 (r5.extBut c o c0 q))
  have up : ∀ c o, c ≠ e → h1.get? c = some o → h7.get? c = some o := fun c o c0 q => k7 c o c0 (k4 c o c0 q)
  refine wpAny_bind (wpAny_letGo (wpAny_pure ⟨_, rfl, wpAny_pure (hQ x1 x2 h7 tk (tk + 1) x' f' b1 b2 p1 p2 e7 (up _ _ (Ne.symm n0) z1) zo (up _ _ (Ne.symm nI) I1) (up _ _ (Ne.symm nO) t1) ?_ ?_ (up _ _ (Nat.ne_of_gt hel) q1) (k7 _ _ (Nat.ne_of_gt (Nat.lt_succ_of_lt hel)) t4) ?_ ?_)⟩))
  · exact D1.frame _ _ _ s1 fun b hb o y => up b o (fun q => nf1 (q ▸ hb)) y
  · exact D2.frame _ _ _ s2 fun b hb o y => up b o (fun q => nf2 (q ▸ hb)) y
  · rw [r7.1, r6.1, r5.1, z4]
  · exact fun c o c0 c1 c2 c3 c4 y => up c o c0 (k1 c o c1 c2 c3 c4 y)
theorem ez_end {old : Value} {Q : Option Value → Shared → Prop} {j : Int} (S : ZipSep2 z TI TO i1 i2 fp1 fp2) (D1 : Draws prog w A.in1.in1 i1 fp1 n1 P1 St1) (D2 : Draws prog w A.in1.in1 i2 fp2 n2 P2 St2)
    (he : IsEnum s.heap e z j old) (hz : ZF s.heap z TI TO x f) (hx : Zo x) (hTI : IsTupOf2 s.heap TI (.ref i1) (.ref i2)) (hTO : IsTupOf2 s.heap TO a1 a2) (st1 : St1 i s.heap) (st2 : St2 i s.heap) (le1 : i ≤ n1) (le2 : i ≤ n2) (hend : i = n1 ∨ i = n2)
    (hQ : ∀ h' tk, (∀ c o, c ≠ z → c ≠ TO → c ≠ i1 → c ≠ i2 → s.heap.get? c = some o → h'.get? c = some o) → Q none { s with heap := h', toks := tk }) : wpAny (model prog w) A (pyNext (.ref e)) Q E s := by
  have hT : s.TypeIs (.ref e) "enumerate" := ⟨_, he, rfl⟩
  unfold pyNext
  refine wpAny_bind (wpAny_attempt (wpAny_callSpecial?_slot (name := Str.ofString "__next__") hT F.slot_enumerate_next
    (wpAny_call_entry F.slot_enumerate_next hT F.entry_enumerate_next ?_ (F.args_enumerate_next_1 _))))
  show wpAny _ _ (field (.ref e) 2 >>= _) _ _ _
  refine wpAny_bind (wpAny_field he rfl (x := .ref z) rfl ?_)
  refine wpAny_bind (zf_nextOf_end S D1 D2 hz hx hTI hTO st1 st2 le1 le2 hend fun h' tk y k hy => ?_)
  obtain ⟨o, ho, hc⟩ := hy
  refine wpAny_bind (wpAny_isInstance (T := "StopIteration") (b := true) ⟨o, ho, hc⟩ isSubtype_stop ?_)
  exact wpAny_pure (hQ _ _ k)
end
end PySem
namespace L2
open PySem PySem.Spec PyProof.Rows
section
variable {X : Cx} {pins : List (Addr × Obj)} {σ : St} {H : Hp} {s : Shared} {h' : Heap}
/-- two new objects are laid at once -/
theorem Inv.turnedTwo {t' : Nat} {ch : List Addr} {T U : Addr} {ob oc : HO} (I : Inv X pins σ H s) (k : ∀ b o, b ∉ ch → s.heap.get? b = some o → h'.get? b = some o) (hf : ∀ b ∈ ch, FpOk X pins H b) (hT : s.heap.objs.size ≤ T) (hU : s.heap.objs.size ≤ U) (hne : U ≠ T)
    (n1 : ObjOk X.prog X.w (upd (upd H T ob) U oc) h' T ob) (n2 : ObjOk X.prog X.w (upd (upd H T ob) U oc) h' U oc) : Inv X pins σ (upd (upd H T ob) U oc) { s with heap := h', toks := t' } := by
  have hn : H T = none := I.hok.fresh hT
  have hm : H U = none := I.hok.fresh hU
  have st : ∀ b u, H b = some u → upd (upd H T ob) U oc b = some u := fun b u q => by rw [upd_ne (ne_of_none q hm), upd_ne (ne_of_none q hn)]; exact q
  have nit : ∀ b u, H b = some u → b ∉ ch := fun b u e z => by
    have q := (hf b z).1
    rw [q] at e; cases e
  refine I.step (g' := s.gens) (d' := s.drawn) (ch := ch) (fun b hb => ⟨(hf b hb).2.2.2.1, (hf b hb).2.1, (hf b hb).2.2.2.2.1, (hf b hb).2.2.2.2.2⟩) (fun b o _ _ hc e _ => k b o hc e) (fun b o _ _ hc e _ => ⟨o.slots, k b o hc e⟩)
    (fun b o _ e n => ?_) (fun b o hc e => ⟨o, k b o hc e⟩) (fun b xs e => ?_) (fun b o u e => ?_) (fun b ps e => ⟨#[], ?_⟩) (fun m hm => ?_) (fun b u e => ?_) I.bare
  · have l := Heap.lt_size e
    rw [upd_ne (Nat.ne_of_lt (Nat.lt_of_lt_of_le l hU)), upd_ne (Nat.ne_of_lt (Nat.lt_of_lt_of_le l hT))]; exact n
  · exact st _ _ e
  · exact st _ _ e
  · rw [st _ _ e]; simp
  · obtain ⟨o, es, ep, ho, r⟩ := hm
    exact ⟨o, es, ep, k _ o (fun z => (hf _ z).2.1 rfl) ho, r⟩
  · by_cases hb : b = U
    · subst hb
      rw [upd_same] at e
      cases e
      exact n2
    · by_cases hc : b = T
      · subst hc
        rw [upd_ne hb, upd_same] at e
        cases e
        exact n1
      · rw [upd_ne hb, upd_ne hc] at e
        refine (I.hok b u e).stay (fun c v hc q => k c v ?_ q) (fun c q => st _ _ q) fun c xs q => st _ _ q
        rcases hc with z | z
        · rw [z]; exact nit b u e
        · exact nit c _ z
end
end L2
namespace PySem
open Sem (wp)
open AutoSeq1 (wpAny_loadPart')
/-- enumerate(it) of an iterator that is its own -/
theorem meets_enumI {v : Value} {H : Heap → Prop} (B : ∀ (prog : Program) (w : World) (A : Around) (E : Value → Shared → Prop) (s : Shared) (Q : Value → Shared → Prop), H s.heap → Q v s → wpAny (model prog w) A (pyIter v) Q E s) :
    Meets (Builtin.«enumerate.__new__» ⟨[.type "enumerate", v], []⟩) (fun _ R s => H s.heap ∧
      R (.ok (.ret (.ref s.heap.objs.size))) { s with heap := s.heap.push { cls := .type "enumerate", data := .fields #[.none, .bool false, v, rawInt 0, .none, .none] } }) :=
  .of_wp fun prog w A R s h => by
    obtain ⟨hp, g, d, tk, os⟩ := s; obtain ⟨h1, h⟩ := h
    have hsub := sub_enumerate
    have q1 : ∀ {A' : Around} {E : Value → Shared → Prop} {Q : Value → Shared → Prop}, Q v ⟨hp, g, d, tk, os⟩ → wpAny (model prog w) A' (pyIter v) Q E ⟨hp, g, d, tk, os⟩ :=
      fun q => B prog w _ _ ⟨hp, g, d, tk, os⟩ _ h1 q
    wp_walk using q1
    refine wpAny_stack_any fun st => wpAny_pure ?_
    split
    · rename_i c _ _ _ _ _
      cases (c == Value.type "enumerate")
      · wp_walk using q1
        exact ⟨_, rfl, h⟩
      · wp_walk using q1
        exact ⟨_, rfl, h⟩
    · wp_walk using q1
      exact ⟨_, rfl, h⟩
theorem enum_beginsI {prog : Program} {w : World} {A : Around} {E : Value → Shared → Prop} {s : Shared} {it : Addr} {H : Heap → Prop} {Q : Value → Shared → Prop} (B : ∀ (prog : Program) (w : World) (A : Around) (E : Value → Shared → Prop) (s : Shared) (Q : Value → Shared → Prop), H s.heap → Q (.ref it) s → wpAny (model prog w) A (pyIter (.ref it)) Q E s) (h1 : H s.heap)
    (h : ∀ h', IsEnum h' s.heap.objs.size it 0 .none → h'.objs.size = s.heap.objs.size + 1 →
      (∀ b o, s.heap.get? b = some o → h'.get? b = some o) → Q (.ref s.heap.objs.size) { s with heap := h' }) :
    wpAny (model prog w) A (call (.type "enumerate") [.ref it]) Q E s := by
  refine callType_new F.called_enumerate (by decide) (F.typeCall_enumerate_1 _) (F.newCall_enumerate_1 _) (fun obj => F.args_object_init_2 obj _) F.entry_enumerate_new
    (meets_enumI B) ⟨h1, ?_⟩
  have he : IsEnum (s.heap.push { cls := .type "enumerate", data := .fields #[.none, .bool false, .ref it, rawInt 0, .none, .none] }) s.heap.objs.size it 0 .none := Heap.get?_push_size _ rfl
  exact ⟨⟨_, he, rfl⟩, h _ he (Heap.size_push ..) fun b o x => Heap.get?_push_of_some _ x⟩
end PySem
namespace DL
open PySem PySem.Spec PyProof.Rows L2
def ItEZ (K : PySem.W.Frag) (b c : Bool) (a d : Addr) : It :=
  ⟨fun i H => ∃ (xs ys : List V) (x y : V), SqS K H b a xs ∧ SqS K H c d ys ∧ xs[i]? = some x ∧ ys[i]? = some y,
    fun i H v H' => ∃ T U x y, v = .ref U ∧ H T = none ∧ upd H T (.tup [x, y]) U = none ∧ H' = upd (upd H T (.tup [x, y])) U (.tup [.int (i : Nat), .ref T]) ∧ (∀ xs, SqS K H b a xs → xs[i]? = some x) ∧ ∀ ys, SqS K H c d ys → ys[i]? = some y,
    fun i H => ∃ xs ys : List V, SqS K H b a xs ∧ SqS K H c d ys ∧ i ≤ xs.length ∧ i ≤ ys.length ∧ (i = xs.length ∨ i = ys.length)⟩
structure EzSt (b c : Bool) (a d e z TI TO i1 i2 : Addr) (i : Nat) (h : Heap) : Prop where
  en : ∃ old, IsEnum h e z ((i : Nat) : Int) old
  zp : ∃ x f, ZF h z TI TO x f ∧ Zo x
  ti : IsTupOf2 h TI (.ref i1) (.ref i2)
  to : ∃ x y, IsTupOf2 h TO x y
  j1 : IsIt b h i1 a i
  j2 : IsIt c h i2 d i
theorem turn_ez {P : Program} {w : World} {K : PySem.W.Frag} {elts : List Expr} {kk : Nat} {tpos : Pos} (b c : Bool) {a d e z TI TO i1 i2 : Addr} (D : ZipSep2 z TI TO i1 i2 [i1, a] [i2, d]) (na : a ≠ i1) (nd : d ≠ i2)
    (n0 : e ≠ z) (nI : e ≠ TI) (nO : e ≠ TO) (nf1 : e ∉ [i1, a]) (nf2 : e ∉ [i2, d]) :
    Turn P w K (.Tuple elts kk tpos) (ItEZ K b c a d) [e, z, TI, TO, i1, i2] e (EzSt b c a d e z TI TO i1 i2) where
  mem := by simp
  obj := fun i h st q hc => by
    obtain ⟨⟨old, he⟩, ⟨x0, f0, hz, _⟩, hTI, ⟨x, y, hTO⟩, h1, h2⟩ := st
    have e' : q = e ∨ q = z ∨ q = TI ∨ q = TO ∨ q = i1 ∨ q = i2 := by simpa using hc
    rcases e' with e' | e' | e' | e' | e' | e'
    · rw [e']; exact ⟨_, he, fun v q => nomatch q⟩
    · rw [e']; exact ⟨_, hz, fun v q => nomatch q⟩
    · rw [e']; exact ⟨_, hTI, fun v q => nomatch q⟩
    · rw [e']; exact ⟨_, hTO, fun v q => nomatch q⟩
    · rw [e']; exact it_obj h1
    · rw [e']; exact it_obj h2
  keep := fun i h h' st k => by
    obtain ⟨⟨old, he⟩, ⟨x0, f0, hz, zo⟩, hTI, ⟨x, y, hTO⟩, h1, h2⟩ := st
    exact ⟨⟨old, k e (by simp) _ he⟩, ⟨x0, f0, k z (by simp) _ hz, zo⟩, k TI (by simp) _ hTI, ⟨x, y, k TO (by simp) _ hTO⟩, it_keep h1 fun o q => k i1 (by simp) o q, it_keep h2 fun o q => k i2 (by simp) o q⟩
  item := by
    intro X hP hw hK hc i pins s σ H E I hf st hg
    subst hP hw hK
    have st0 := st
    obtain ⟨⟨old, he⟩, ⟨xz, fz, hz, zo⟩, hTI, ⟨x0, y0, hTO⟩, h1, h2⟩ := st
    obtain ⟨xs, ys, x, y, hqx, hqy, hx, hy⟩ := hg
    obtain ⟨its, rv, p⟩ := src_at I hqx
    obtain ⟨its2, rv2, p2⟩ := src_at I hqy
    obtain ⟨u, hu, ru⟩ := rv.get hx
    obtain ⟨u2, hu2, ru2⟩ := rv2.get hy
    have l1 := rv.length
    have l2 := rv2.length
    have hlt1 : i < its.toArray.size := by have := (List.getElem?_eq_some_iff.mp hx).1; simp; omega
    have hlt2 : i < its2.toArray.size := by have := (List.getElem?_eq_some_iff.mp hy).1; simp; omega
    have hel : e < s.heap.objs.size := Heap.lt_size he
    have old : ∀ q ∈ [e, z, TI, TO, i1, i2], q < s.heap.objs.size := fun q hq => by
      have e' : q = e ∨ q = z ∨ q = TI ∨ q = TO ∨ q = i1 ∨ q = i2 := by simpa using hq
      rcases e' with e' | e' | e' | e' | e' | e'
      · rw [e']; exact hel
      · rw [e']; exact Heap.lt_size hz
      · rw [e']; exact Heap.lt_size hTI
      · rw [e']; exact Heap.lt_size hTO
      · rw [e']; obtain ⟨_, r, _⟩ := it_obj h1; exact Heap.lt_size r
      · rw [e']; obtain ⟨_, r, _⟩ := it_obj h2; exact Heap.lt_size r
    refine ez_item D (src_draws (A := X.A.in1.in1) (I.ok.hd hc) b i1 a na its.toArray) (src_draws (A := X.A.in1.in1) (I.ok.hd hc) c i2 d nd its2.toArray) he n0 nI nO nf1 nf2 hz zo hTI hTO ⟨h1, p⟩ ⟨h2, p2⟩ hlt1 hlt2 fun x1 x2 h' tk tn x' f' b1 b2 e1 e2 he' hz' zo' hTI' hTO' h1' h2' hT hU hsz hk => ?_
    have hx1 : x1 = u := by
      have : its[i]? = some x1 := by simpa using e1
      rw [hu] at this
      exact (Option.some.inj this).symm
    have hx2 : x2 = u2 := by
      have : its2[i]? = some x2 := by simpa using e2
      rw [hu2] at this
      exact (Option.some.inj this).symm
    subst hx1 hx2
    refine ⟨_, rfl, wpAny_letOwnedTupleGo_enum (s := { s with heap := h', toks := tn }) he' fun h'' he'' sb => ?_⟩
    have sk : ∀ c o, c ≠ e → h'.get? c = some o → h''.get? c = some o := fun c o c0 q => (sb.2 _ c0).trans q
    have hT2 : IsTupOf2 h'' s.heap.objs.size x1 x2 := sk _ _ (Nat.ne_of_gt hel) hT
    have hU2 : IsTupOf2 h'' (s.heap.objs.size + 1) (.int i tk) (.ref s.heap.objs.size) := sk _ _ (Nat.ne_of_gt (Nat.lt_succ_of_lt hel)) hU
    have hTU : s.heap.objs.size + 1 ≠ s.heap.objs.size := Nat.succ_ne_self _
    have new1 : ObjOk X.prog X.w (upd (upd H s.heap.objs.size (.tup [x, y])) (s.heap.objs.size + 1) (.tup [.int (i : Nat), .ref s.heap.objs.size])) h'' s.heap.objs.size (.tup [x, y]) :=
      ⟨by show 2 ≤ sizeLine; decide, [x1, x2], .cons ru (.cons ru2 .nil), ⟨_, hT2, rfl, _, rfl⟩⟩
    have new2 : ObjOk X.prog X.w (upd (upd H s.heap.objs.size (.tup [x, y])) (s.heap.objs.size + 1) (.tup [.int (i : Nat), .ref s.heap.objs.size])) h'' (s.heap.objs.size + 1) (.tup [.int (i : Nat), .ref s.heap.objs.size]) :=
      ⟨by show 2 ≤ sizeLine; decide, [.int i tk, .ref s.heap.objs.size], .cons ⟨_, rfl⟩ (.cons rfl .nil), ⟨_, hU2, rfl, _, rfl⟩⟩
    have I1 := I.turnedTwo (t' := tn) (ch := [e, z, TI, TO, i1, i2]) (h' := h'') (fun q o hb r => sk q o (fun z' => hb (by simp [z'])) (hk q o (fun z' => hb (by simp [z'])) (fun z' => hb (by simp [z'])) (fun z' => hb (by simp [z'])) (fun z' => hb (by simp [z'])) (fun z' => hb (by simp [z'])) r)) hf (Nat.le_refl _) (Nat.le_succ _) hTU new1 new2
    have hm : H (s.heap.objs.size + 1) = none := I.hok.fresh (Nat.le_succ _)
    refine ⟨.ref (s.heap.objs.size + 1), _, I1, rfl, ⟨_, _, x, y, rfl, I.hok.fresh (Nat.le_refl _), by rw [upd_ne hTU]; exact hm, rfl, fun l hl => by rw [src_inj I hl hqx]; exact hx, fun l hl => by rw [src_inj I hl hqy]; exact hy⟩, ⟨⟨.ref s.heap.objs.size, ?_⟩, ⟨x', f', sk _ _ (Ne.symm n0) hz', zo'⟩, sk _ _ (Ne.symm nI) hTI', ⟨b1, b2, sk _ _ (Ne.symm nO) hTO'⟩, ?_, ?_⟩, fun q hq => ?_⟩
    · have e3 : ((i + 1 : Nat) : Int) = (i : Int) + 1 := by omega
      rw [e3]; exact he''
    · exact it_keep h1'.1 fun o q => sk _ _ (fun z' => nf1 (by simp [z'])) q
    · exact it_keep h2'.1 fun o q => sk _ _ (fun z' => nf2 (by simp [z'])) q
    · have l := old q hq
      rw [upd_ne (Nat.ne_of_lt (Nat.lt_succ_of_lt l)), upd_ne (Nat.ne_of_lt l)]
      exact (hf q hq).1
  done := by
    intro X hP hw hK hc i pins s σ H E I hf st hg
    subst hP hw hK
    obtain ⟨⟨old, he⟩, ⟨xz, fz, hz, zo⟩, hTI, ⟨x0, y0, hTO⟩, h1, h2⟩ := st
    obtain ⟨xs, ys, hqx, hqy, le1, le2, hend⟩ := hg
    obtain ⟨its, rv, p⟩ := src_at I hqx
    obtain ⟨its2, rv2, p2⟩ := src_at I hqy
    have l1 := rv.length
    have l2 := rv2.length
    exact ez_end D (src_draws (A := X.A.in1.in1) (I.ok.hd hc) b i1 a na its.toArray) (src_draws (A := X.A.in1.in1) (I.ok.hd hc) c i2 d nd its2.toArray) he hz zo hTI hTO ⟨h1, p⟩ ⟨h2, p2⟩ (by simp; omega) (by simp; omega) (by simp; omega) fun h' tk hk => ⟨rfl, I.turnedL (t' := tk) (ch := [e, z, TI, TO, i1, i2]) (fun q o hb r =>
      hk q o (fun z' => hb (by simp [z'])) (fun z' => hb (by simp [z'])) (fun z' => hb (by simp [z'])) (fun z' => hb (by simp [z'])) r) hf⟩
  self := fun A i s Q E st h => let ⟨_, he⟩ := st.en; wpAny_pyIter_enum he h
def iEZ (K : PySem.W.Frag) (ta : TA) : TI := fun σ H R => ta σ H fun vs H1 => ∃ b c a d xs ys, vs = [.ref a, .ref d] ∧ SqS K H1 b a xs ∧ SqS K H1 c d ys ∧ R (ItEZ K b c a d) H1
theorem pi_ez {X : Cx} {e e2 : Expr} {ta : TA} {p p' pos pos' tpos : Pos} {elts : List Expr} {kk : Nat} (hg : Gl X "zip") (hm : X.mg "zip" = none) (hg' : Gl X "enumerate") (hm' : X.mg "enumerate" = none) (ha : PA X [e, e2] ta)
    (hs : starEach [e, e2] X.env = (false, eval e X.env) :: starEach [e2] X.env := by rfl) (hpl : (backTo pos (starEach [e2] X.env)).any (·.1) = false := by rfl)
    (hs' : starEach [.Call (.Name "zip" p) [e, e2] [] pos] X.env = [(false, eval (.Call (.Name "zip" p) [e, e2] [] pos) X.env)] := by rfl) :
    PI X (.Tuple elts kk tpos) (.Call (.Name "enumerate" p') [.Call (.Name "zip" p) [e, e2] [] pos] [] pos') (iEZ X.K ta) := by
  refine ⟨fun pins s σ H R I h => ?_⟩
  refine Call_ (ld_blt I hg' hm' boot_enumerate (PyProof.Rows.callWith_type1 ?_ hs' rfl))
  rw [hs']
  show wpAny _ _ (spliced [(false, eval (.Call (.Name "zip" p) [e, e2] [] pos) X.env)]) _ _ s
  refine Calls.spliced_cons ?_
  refine Call_ (ld_blt I hg hm PyProof.Rows.boot_zip (PyProof.Rows.callWith_type1 (thn (ha.run pos pins s σ H _ I h) fun us s1 ⟨vs, H1, I1, r1, q1⟩ => ?_) hs hpl))
  obtain ⟨b, c, a, d, xs, ys, ex, hqx, hqy, q⟩ := q1
  subst ex
  cases r1 with
  | cons r rr =>
    cases rr with
    | cons r' rr =>
      cases rr
      cases r
      cases r'
      obtain ⟨its, rv, p1⟩ := src_at I1 hqx
      obtain ⟨its2, rv2, p2⟩ := src_at I1 hqy
      have n1 := src_lt p1
      have n2 := src_lt p2
      refine zip_begins2 (src_begins b a its.toArray) (src_begins c d its2.toArray) p1 p2 fun h' hz hTI hTO h1 h2 hsz hk => Calls.spliced_nil ?_
      refine enum_beginsI (s := { s1 with heap := h' }) (H := fun h => IsZip h (s1.heap.objs.size + 4) (s1.heap.objs.size + 2) (s1.heap.objs.size + 3) .none) (fun prog w A E s Q hh q => wpAny_pyIter_zip hh q) hz fun h2' he hsz2 hk2 => wpAny_pyIter_enum he ?_
      replace hk2 : ∀ b o, h'.get? b = some o → h2'.get? b = some o := hk2
      replace hsz2 : h2'.objs.size = h'.objs.size + 1 := hsz2
      replace he : IsEnum h2' h'.objs.size (s1.heap.objs.size + 4) 0 .none := he
      have I2 : Inv X pins σ H1 { s1 with heap := h2' } := I1.kept (t' := s1.toks) fun b o r => hk2 b o (hk b o r)
      have eN : h'.objs.size = s1.heap.objs.size + 5 := hsz
      have lz : s1.heap.objs.size + 4 < h'.objs.size := Heap.lt_size hz
      have l2 : s1.heap.objs.size + 2 < h'.objs.size := Heap.lt_size hTI
      have l3 : s1.heap.objs.size + 3 < h'.objs.size := Heap.lt_size hTO
      have l0 : s1.heap.objs.size < h'.objs.size := Heap.lt_size h1
      have l1 : s1.heap.objs.size + 1 < h'.objs.size := Heap.lt_size h2
      refine ⟨h'.objs.size, [h'.objs.size, s1.heap.objs.size + 4, s1.heap.objs.size + 2, s1.heap.objs.size + 3, s1.heap.objs.size, s1.heap.objs.size + 1], _, _, H1, rfl, I2, turn_ez b c (zip_sep2 (fp1 := [a]) (fp2 := [d]) (by simpa using n1) (by simpa using n2)) (Nat.ne_of_lt n1) (Nat.ne_of_lt (Nat.lt_succ_of_lt n2)) (Nat.ne_of_gt lz) (Nat.ne_of_gt l2) (Nat.ne_of_gt l3) (fun z => ?_) (fun z => ?_), ⟨⟨.none, he⟩, ⟨.none, false, hk2 _ _ hz, .inl rfl⟩, hk2 _ _ hTI, ⟨_, _, hk2 _ _ hTO⟩, it_new (hk2 _ _ h1), it_new (hk2 _ _ h2)⟩, fun c hcm => ?_, q⟩
      · rcases List.mem_cons.mp z with z | z
        · exact absurd z (Nat.ne_of_gt l0)
        · exact absurd (List.mem_singleton.mp z) (Nat.ne_of_gt (Nat.lt_trans n1 l0))
      · rcases List.mem_cons.mp z with z | z
        · exact absurd z (Nat.ne_of_gt l1)
        · exact absurd (List.mem_singleton.mp z) (Nat.ne_of_gt (Nat.lt_trans n2 l0))
      · have e' : c = h'.objs.size ∨ c = s1.heap.objs.size + 4 ∨ c = s1.heap.objs.size + 2 ∨ c = s1.heap.objs.size + 3 ∨ c = s1.heap.objs.size ∨ c = s1.heap.objs.size + 1 := by simpa using hcm
        have hle : s1.heap.objs.size ≤ c := by
          rcases e' with z | z | z | z | z | z
          · rw [z]; exact Nat.le_of_lt l0
          · rw [z]; exact Nat.le_add_right _ _
          · rw [z]; exact Nat.le_add_right _ _
          · rw [z]; exact Nat.le_add_right _ _
          · rw [z]; exact Nat.le_refl _
          · rw [z]; exact Nat.le_add_right _ _
        exact I1.fpOk hle (I1.hok.fresh hle)
def ezD (l m : List Dv) : List Dv := (l.zip m).mapIdx fun i q => .tup [.int (i : Nat), .tup [q.1, q.2]]
theorem walk_ez {K : Kw} {L : Addr → Prop} {io : List Addr} {H : Hp} {a a2 : Addr} {d d2 : Dv} {b b2 : Bool} {l m : List Dv} (r : VR K L io H (.ref a) d) (r2 : VR K L io H (.ref a2) d2) (h : asSq d = some (b, l)) (h2 : asSq d2 = some (b2, m)) : WalkR K L io H (ItEZ K b b2 a a2) (ezD l m) where
  go := fun L1 io1 H1 S i q s sr hq => by
    obtain ⟨a', xs, e, hs, t⟩ := asSq_ok (r.stw s) h
    cases e
    obtain ⟨a', ys, e, hs2, t2⟩ := asSq_ok (r2.stw s) h2
    cases e
    unfold ezD at hq
    rw [List.getElem?_mapIdx] at hq
    cases hz : (l.zip m)[i]? with
    | none => rw [hz] at hq; cases hq
    | some y =>
      rw [hz] at hq
      cases hq
      obtain ⟨k1, k2⟩ := List.getElem?_zip_eq_some.mp hz
      obtain ⟨v, h3, h4⟩ := t.get k1
      obtain ⟨v2, h5, h6⟩ := t2.get k2
      refine ⟨⟨xs, ys, v, v2, hs, hs2, h3, h5⟩, fun x H2 ⟨T, U, w, w2, e1, hT, hU, e2, y1, y2⟩ => ?_⟩
      subst e1 e2
      have hv := y1 xs hs
      rw [h3] at hv
      cases hv
      have hv2 := y2 ys hs2
      rw [h5] at hv2
      cases hv2
      have s1 := sr.alloc (o := .tup [v, v2]) hT
      have v1 : VR K L1 io1 (upd H1 T (.tup [v, v2])) (.ref T) (.tup [y.1, y.2]) := VR.newT sr hT (.cons h4 (.cons h6 .nil))
      exact ⟨s1.alloc hU, (Stp.alloc hT).trans (Stp.alloc hU) sr.sub, VR.newT s1 hU (.cons (.int _) (.cons v1 .nil))⟩
  stop := fun L1 io1 H1 s => by
    obtain ⟨a', xs, e, hs, t⟩ := asSq_ok (r.stw s) h
    cases e
    obtain ⟨a', ys, e, hs2, t2⟩ := asSq_ok (r2.stw s) h2
    cases e
    refine ⟨xs, ys, hs, hs2, ?_⟩
    have e3 := t.len
    have e4 := t2.len
    unfold ezD
    rw [List.length_mapIdx, List.length_zip]
    omega
def ezR : List Dv → Sto → Res (List Dv)
  | [d, d2], S => match asSq d, asSq d2 with
    | some (_, l), some (_, m) => .ok (ezD l m) S
    | _, _ => .no
  | _, _ => .no
def iEz' (fa : DA) : DL := fun e S => bnd (fa e S) ezR
section
variable {X : Cx} {W : WX} {pos pos' p p' tpos : Pos} {a b : Expr} {elts : List Expr} {kk : Nat}
theorem qi_ez (hm : X.mg "zip" = none) (hm' : X.mg "enumerate" = none) {fa : DA} (ha : QA X W [a, b] fa) (hg : Gl X "zip" := by rfl) (hg' : Gl X "enumerate" := by rfl) (hs : starEach [a, b] X.env = (false, eval a X.env) :: starEach [b] X.env := by rfl) (hpl : (backTo pos (starEach [b] X.env)).any (·.1) = false := by rfl)
    (hs' : starEach [.Call (.Name "zip" p) [a, b] [] pos] X.env = [(false, eval (.Call (.Name "zip" p) [a, b] [] pos) X.env)] := by rfl) : QI X W (.Tuple elts kk tpos) (.Call (.Name "enumerate" p') [.Call (.Name "zip" p) [a, b] [] pos] [] pos') (iEz' fa) := by
  have hp := pi_ez (elts := elts) (kk := kk) (tpos := tpos) (p := p) (pos := pos) (p' := p') (pos' := pos') hg hm hg' hm' ha hs hpl hs'
  refine ⟨fun pins s g H R I q => hp.run pins s g H R I ?_⟩
  obtain ⟨L0, io0, H0, L, io, e, S, fr, q⟩ := q
  refine FinI.bind (R := VRs X.kw) (k := ezR) fr q fun L1 io1 H1 S1 l v s1 fr1 r1 q => ?_
  cases r1 with
  | nil => exact q.elim
  | cons r t =>
    cases t with
    | nil => exact q.elim
    | cons r2 t2 =>
      cases t2 with
      | nil =>
        rename_i w d w2 d2
        replace q : FinI X.kw W g L1 io1 H1 R (match asSq d, asSq d2 with
          | some (_, l), some (_, m) => .ok (ezD l m) S1
          | _, _ => .no) := q
        cases hd : asSq d with
        | none => rw [hd] at q; exact q.elim
        | some z =>
          obtain ⟨bb, l⟩ := z
          cases hd2 : asSq d2 with
          | none => rw [hd, hd2] at q; exact q.elim
          | some z2 =>
            obtain ⟨bb2, m⟩ := z2
            rw [hd, hd2] at q
            obtain ⟨a', xs, rfl, hs, t⟩ := asSq_ok r hd
            obtain ⟨a2, ys, rfl, hs2, t2⟩ := asSq_ok r2 hd2
            exact ⟨bb, bb2, a', a2, xs, ys, rfl, hs, hs2, q _ H1 L1 io1 (Stp.refl ..) fr1.st (walk_ez r r2 hd hd2)⟩
      | cons => exact q.elim
end
@[simp] theorem ev_ez {fa : DA} {e : Env} {S : Sto} : iEz' fa e S = bnd (fa e S) ezR := rfl
@[simp] theorem ezR_tt {l m : List Dv} {S : Sto} : ezR [.tup l, .tup m] S = .ok (ezD l m) S := rfl
@[simp] theorem ezR_ll {l m : List Dv} {S : Sto} : ezR [.lst l, .lst m] S = .ok (ezD l m) S := rfl
end DL
namespace DL
open PySem L2
def rngKT (d : Dv) (S : Sto) : Res Dv := match d with
  | .int n => if 0 ≤ n ∧ n ≤ 16777216 then .ok (.tup (rngD 0 n.toNat)) S else .no
  | _ => .no
def eRngT (f : DE) : DE := fun e S => bnd (f e S) rngKT
theorem qe_rngT {X : Cx} {W : WX} {p p2 pos pos2 : Pos} {a : Expr} {f : DE} (hm : X.mg "tuple" = none) (hm2 : X.mg "range" = none) (ha : QE X W a f) (hc : X.calm = true := by rfl) (hg : Gl X "tuple" := by rfl) (hg2 : Gl X "range" := by rfl) (na : starEach [a] X.env = (false, eval a X.env) :: starEach [] X.env := by rfl)
    (na2 : starEach [.Call (.Name "range" p2) [a] [] pos2] X.env = (false, eval (.Call (.Name "range" p2) [a] [] pos2) X.env) :: starEach [] X.env := by rfl) : QE X W (.Call (.Name "tuple" p) [.Call (.Name "range" p2) [a] [] pos2] [] pos) (eRngT f) :=
  pe_imp (pe_tupRg hc hg hm (prg_1 hg2 hm2 ha na) na2) fun g H Q q => by
  refine Rdg.bind (R := VR X.kw) (k := fun _ => rngKT) q fun L0 io0 H0 L io H1 e S d v fr rv q => ?_
  unfold rngKT at q
  cases d with
  | int n =>
    simp only at q
    split at q
    · rename_i hn
      cases rv
      exact ⟨n, rfl, RgOk.of_le (by omega) hn.2 (by omega) hn.1, fun p hp => q _ _ L io (Stp.alloc hp) (fr.st.alloc hp) (VR.newT fr.st hp (vrs_rng n))⟩
    · exact q.elim
  | _ => exact q.elim
@[simp] theorem ev_rngT {f : DE} {e : Env} {S : Sto} : eRngT f e S = bnd (f e S) rngKT := rfl
theorem rngKT_ok {n : Int} (h : 0 ≤ n ∧ n ≤ 16777216) (S : Sto) : rngKT (.int n) S = .ok (.tup (rngD 0 n.toNat)) S := if_pos h
def cutF (d : Dv) (lo hi : Option Int) (S : Sto) : Res (List Dv) := match asL S d with
  | some m => .ok (cutG m lo hi) S
  | none => .no
def kCutF (fl fh : DO) (e : Env) (d : Dv) (S1 : Sto) : Res (List Dv) := bnd (fl e S1) fun l S2 => bnd (fh e S2) fun h S3 => cutF d l h S3
def fCut (f : DE) (fl fh : DO) : DL := fun e S => bnd (f e S) (kCutF fl fh e)
theorem qf_cut {X : Cx} {W : WX} {pos p2 : Pos} {a : Expr} {lo hi : Option Expr} {f : DE} {fl fh : DO} (he : QX X W a f) (hl : QO X W lo fl) (hh : QO X W hi fh) : QF X W (.Subscript a (.Slice lo hi none p2) pos) (fCut f fl fh) := pe_imp (pe_slice (sl_list.or (sl_tupA.or sl_str)) he hl hh) fun g H Q q => by
  obtain ⟨L0, io0, H0, L, io, e, S, fr, q⟩ := q
  refine FinF.bind (R := VX X.kw) (k := kCutF fl fh e) fr q fun L1 io1 H1 S1 d v s1 fr1 rv q => ?_
  refine FinF.bind (R := fun _ _ _ (v : Option Int) d => v = d) (k := fun l S2 => bnd (fh e S2) fun h S3 => cutF d l h S3) fr1 q fun L2 io2 H2 S2 l w s2 fr2 rw2 q => ?_
  subst rw2
  refine FinF.bind (R := fun _ _ _ (v : Option Int) d => v = d) (k := fun h S3 => cutF d w h S3) fr2 q fun L3 io3 H3 S3 h w2 s3 fr3 rw3 q => ?_
  subst rw3
  have r := (rv.step s2 fr1.st.sub).step s3 fr2.st.sub
  unfold cutF at q
  cases h3 : asL S3 d with
  | none => rw [h3] at q; exact q.elim
  | some m =>
    rw [h3] at q
    obtain ⟨p, xs, rfl, hs, t⟩ := asL_x fr3.st r h3
    exact .inl ⟨p, xs, rfl, hs, fun p hp => q.new fr3.st t.cut p hp⟩
@[simp] theorem ev_fCut (f : DE) (fl fh : DO) (e : Env) (S : Sto) : fCut f fl fh e S = bnd (f e S) (kCutF fl fh e) := rfl
@[simp] theorem ev_kCutF (fl fh : DO) (e : Env) (d : Dv) (S : Sto) : kCutF fl fh e d S = bnd (fl e S) fun l S2 => bnd (fh e S2) fun h S3 => cutF d l h S3 := rfl
theorem cutF_hdl {S : Sto} {k : Nat} {l : List Dv} (h : S[k]? = some (.lst l)) (lo hi : Option Int) : cutF (.hdl k) lo hi S = .ok (cutG l lo hi) S := by
  unfold cutF
  rw [show asL S (.hdl k) = some l by simp [asL, h]]
end DL
namespace DL
open PySem L2
inductive Fn where
  | Record_len
  | l_bag
  | as_tuples
  | Record_init
  | l_lists
  | Record_entries
  | Record_end
  | Record_eq
  | l_due
  | l_take
  | l_one
  | l_entry
  | l_end
  | l_emptied
  | Record_sites
  | parted_at
  | NoFailing_init
  | Record_left
  | l_left
  | l_lefts_hold
  | law
def tbl : List (Str × Fn) := []
def dl_Record_3 : List Dv := []
def xtab : List (Str × List Str) := [("NoFailing", ["index"])]
def ext_NoFailing : List (Str × Bool) := [("NoFailing", true)]
def su_Record : List (Str × Bool) := [("Record", true)]
def fb_Record_len (c : Fn → DF) : DS := (sRet (eCB lenD (aCons (eBin ixD (eFld "Record" "told" (eVar 0)) (eC (.int 0))) aNil)))
def g_Record_len (c : Fn → DF) : DF := runF 1 1 (fb_Record_len c)
def fb_l_bag (c : Fn → DF) : DS := (sRet (eNew (fLst (aCons (eC (.int 0)) (aCons (eC (.int 1234567891)) (aCons (eC (.int 0)) (aCons (eFrz (fLc (iSq (eCut (eVar 0) oNone (oSome (eC (.int 63))))) (gN 1) tTrue (eCB absD (aCons (eVar 1) aNil)) [1])) aNil)))))))
def g_l_bag (c : Fn → DF) : DF := runF 1 2 (fb_l_bag c)
def fb_as_tuples (c : Fn → DF) : DS := (sSeq (sIf (tTru (eCB isiD (aCons (eVar 0) (aCons (eTup (aCons (eC (.ty "tuple")) (aCons (eC (.ty "list")) aNil))) aNil)))) (sRet (eCB tupleD (aCons (eFrz (fLc (iSq (eVar 0)) (gN 1) tTrue (eCall (c .as_tuples) (aCons (eVar 1) aNil)) [1])) aNil))) sNil) (sRet (eVar 0)))
def g_as_tuples (c : Fn → DF) : DF := runF 1 2 (fb_as_tuples c)
def fb_Record_init (c : Fn → DF) : DS := (sFldH "Record" "told" (eVar 0) (eTup (aCons (eCall (c .as_tuples) (aCons (eVar 1) aNil)) (aCons (eCall (c .as_tuples) (aCons (eVar 2) aNil)) (aCons (eCall (c .as_tuples) (aCons (eVar 3) aNil)) aNil)))))
def g_Record_init (c : Fn → DF) : DF := runF 4 4 (fb_Record_init c)
def fb_l_lists (c : Fn → DF) : DS := (sSeq (sIf (tNot' (tTru (eCB isiD (aCons (eVar 0) (aCons (eTup (aCons (eC (.ty "tuple")) (aCons (eC (.ty "list")) aNil))) aNil))))) (sRet (eVar 0)) sNil) (sRet (eNew (fLc (iSq (eVar 0)) (gN 1) tTrue (eCall (c .l_lists) (aCons (eVar 1) aNil)) [1]))))
def g_l_lists (c : Fn → DF) : DF := runF 1 2 (fb_l_lists c)
def fb_Record_entries (c : Fn → DF) : DS := (sRet (eBin ixD (eFld "Record" "told" (eVar 0)) (eC (.int 0))))
def g_Record_entries (c : Fn → DF) : DF := runF 1 1 (fb_Record_entries c)
def fb_Record_end (c : Fn → DF) : DS := (sRet (eBin ixD (eFld "Record" "told" (eVar 0)) (eC (.int 2))))
def g_Record_end (c : Fn → DF) : DF := runF 1 1 (fb_Record_end c)
def fb_Record_eq (c : Fn → DF) : DS := (sRet (eAnd (eCB (isoD "Record" su_Record) (aCons (eVar 1) (aCons (eC (.glo "Record")) aNil))) (eAnd (eBin eqE (eBin ixD (eFld "Record" "told" (eVar 0)) (eC (.int 0))) (eMeth "Record" "entries" [] (c .Record_entries) (eVar 1) aNil)) (eBin eqE (eBin ixD (eFld "Record" "told" (eVar 0)) (eC (.int 2))) (eMeth "Record" "end" [] (c .Record_end) (eVar 1) aNil)))))
def g_Record_eq (c : Fn → DF) : DF := runF 2 2 (fb_Record_eq c)
def fb_l_due_l0 (c : Fn → DF) : DS := (sOwnM appD 2 (aCons (eIf (tVal (eBin (pu2 (isD true)) (eVar 4) (eC .non))) (eBin addD (eCB listD (aCons (eVar 3) aNil)) (eFrz (fLst (aCons (eTup (aCons (eC (.str "end")) (aCons (eVar 4) aNil))) aNil)))) (eBin addD (eCB listD (aCons (eVar 3) aNil)) (eFrz (fLst (aCons (eC .non) aNil))))) aNil))
def fb_l_due_l1 (c : Fn → DF) : DS := (sSeq (sIf (tOr' (tVal (eBin (pu2 (isD false)) (eBin ixD (eBin ixD (eAny 2) (eC (.int 0))) (eVar 5)) (eC .non))) (tVal (eBin (pu2 (isD false)) (eBin ixD (eBin ixD (eAny 2) (eC (.int 1))) (eVar 5)) (eC .non)))) (sRet (eC .non)) sNil) (sIf (tVal (eBin neE (eBin ixD (eBin ixD (eAny 2) (eC (.int 0))) (eVar 5)) (eBin ixD (eBin ixD (eAny 2) (eC (.int 1))) (eVar 5)))) (sRet (eVar 5)) sNil))
def fb_l_due (c : Fn → DF) : DS := (sSeq (sOwnN 2 (nL (fLst aNil))) (sSeq (sFor (iSq (eTup (aCons (eVar 0) (aCons (eVar 1) aNil)))) (gT (gsCons (gN 3) (gsCons (gN 4) gsNil))) (fb_l_due_l0 c)) (sSeq (sFor (iRng1' (aCons (eCB minD (aCons (eCB lenD (aCons (eBin ixD (eAny 2) (eC (.int 0))) aNil)) (aCons (eCB lenD (aCons (eBin ixD (eAny 2) (eC (.int 1))) aNil)) aNil))) aNil)) (gN 5) (fb_l_due_l1 c)) (sRet (eC .non)))))
def g_l_due (c : Fn → DF) : DF := runF 2 6 (fb_l_due c)
def fb_l_take (c : Fn → DF) : DS := (sSeq (sIf (tVal (eBin eqE (eBin ixD (eVar 0) (eC (.int 0))) (eC (.int 0)))) (sSeq (sAsg 2 (eC (.int 0))) (sSeq (sIf (tVal (eBin (pu2 ltD) (eBin ixD (eVar 0) (eC (.int 2))) (eCB lenD (aCons (eBin ixD (eVar 0) (eC (.int 3))) aNil)))) (sAsg 2 (eBin ixD (eBin ixD (eVar 0) (eC (.int 3))) (eBin ixD (eVar 0) (eC (.int 2))))) sNil) (sSeq (sAugI addI (eVar 0) (eC (.int 2)) (eC (.int 1))) (sSeq (sIf (tVal (eBin (pu2 geD) (eVar 2) (eC (.int 1000000000000000000)))) (sSetI (eVar 0) (eC (.int 0)) (eVar 2)) sNil) (sSeq (sAsg 3 (eBin addD (eBin addD (eBin (pu2 mulD) (eBin ixD (eVar 0) (eC (.int 1))) (eC (.int 48271))) (eBin (pu2 modD) (eCB intD2 (aCons (eVar 2) aNil)) (eC (.int 2147483647)))) (eBin (pu2 mulD) (eC (.int 7919)) (eBin ixD (eVar 0) (eC (.int 2)))))) (sSetI (eVar 0) (eC (.int 1)) (eBin (pu2 modD) (eCB intD2 (aCons (eVar 3) aNil)) (eC (.int 2147483647))))))))) sNil) (sSeq (sIf (tVal (eBin (pu2 gtD) (eBin ixD (eVar 0) (eC (.int 0))) (eC (.int 0)))) (sSeq (sAsg 4 (eBin (pu2 modD) (eCB intD2 (aCons (eBin ixD (eVar 0) (eC (.int 0))) aNil)) (eVar 1))) (sSeq (sSetI (eVar 0) (eC (.int 0)) (eBin (pu2 fdivD) (eCB intD2 (aCons (eBin ixD (eVar 0) (eC (.int 0))) aNil)) (eVar 1))) (sRet (eVar 4)))) sNil) (sSeq (sAsg 5 (eBin (pu2 modD) (eCB intD2 (aCons (eBin (pu2 mulD) (eBin addD (eBin ixD (eVar 0) (eC (.int 1))) (eC (.int 1))) (eC (.int 39373))) aNil)) (eC (.int 1000000007)))) (sSeq (sAsg 6 (eBin (pu2 modD) (eCB intD2 (aCons (eBin (pu2 mulD) (eBin (pu2 modD) (eCB intD2 (aCons (eBin (pu2 mulD) (eVar 5) (eVar 5)) aNil)) (eC (.int 998244353))) (eC (.int 30011))) aNil)) (eC (.int 998244353)))) (sRet (eBin (pu2 modD) (eCB intD2 (aCons (eBin (pu2 fdivD) (eVar 6) (eC (.int 7))) aNil)) (eVar 1)))))))
def g_l_take (c : Fn → DF) : DF := runF 2 7 (fb_l_take c)
def fb_l_one (c : Fn → DF) : DS := (sRet (eBin ixD (eVar 1) (eCall (c .l_take) (aCons (eVar 0) (aCons (eCB lenD (aCons (eVar 1) aNil)) aNil)))))
def g_l_one (c : Fn → DF) : DF := runF 2 2 (fb_l_one c)
def fb_l_entry (c : Fn → DF) : DS := (sSeq (sAsg 1 (eCB tupleD (aCons (eFrz (fLc (iRng1' (aCons (eCall (c .l_take) (aCons (eVar 0) (aCons (eC (.int 3)) aNil))) aNil)) (gN 5) tTrue (eTup (aCons (eVar 5) (aCons (eCall (c .l_take) (aCons (eVar 0) (aCons (eC (.int 3)) aNil))) (aCons (eCall (c .l_take) (aCons (eVar 0) (aCons (eC (.int 3)) aNil))) aNil)))) [5])) aNil))) (sSeq (sAsg 2 (eCB tupleD (aCons (eFrz (fLc (iSq (eCut (eTup (aCons (eC (.str "a")) (aCons (eC (.str "b")) aNil))) oNone (oSome (eCall (c .l_take) (aCons (eVar 0) (aCons (eC (.int 3)) aNil)))))) (gN 6) tTrue (eTup (aCons (eVar 6) (aCons (eCall (c .l_take) (aCons (eVar 0) (aCons (eC (.int 3)) aNil))) aNil))) [6])) aNil))) (sSeq (sAsg 3 (eCall (c .l_take) (aCons (eVar 0) (aCons (eC (.int 4)) aNil)))) (sSeq (sAsg 4 (eCB tupleD (aCons (eFrz (fLc (iRng1' (aCons (eCall (c .l_take) (aCons (eVar 0) (aCons (eC (.int 3)) aNil))) aNil)) (gN 5) tTrue (eCall (c .l_take) (aCons (eVar 0) (aCons (eC (.int 3)) aNil))) [5])) aNil))) (sRet (eTup (aCons (eCall (c .l_one) (aCons (eVar 0) (aCons (eFrz (fLst (aCons (eC (.str "f")) (aCons (eC (.str "g")) aNil)))) aNil))) (aCons (eVar 4) (aCons (eIf (tVal (eBin eqE (eVar 3) (eC (.int 0)))) (eC .non) (eVar 1)) (aCons (eIf (tVal (eBin (pu2 ltD) (eVar 3) (eC (.int 2)))) (eC .non) (eVar 2)) aNil))))))))))
def g_l_entry (c : Fn → DF) : DF := runF 1 7 (fb_l_entry c)
def fb_l_end (c : Fn → DF) : DS := (sSeq (sAsg 1 (eCall (c .l_entry) (aCons (eVar 0) aNil))) (sRet (eIf (tVal (eBin eqE (eCall (c .l_take) (aCons (eVar 0) (aCons (eC (.int 3)) aNil))) (eC (.int 0)))) (eC .non) (eTup (aCons (eOr (eBin ixD (eVar 1) (eC (.int 2))) (eTup aNil)) (aCons (eOr (eBin ixD (eVar 1) (eC (.int 3))) (eTup aNil)) aNil))))))
def g_l_end (c : Fn → DF) : DF := runF 1 2 (fb_l_end c)
def fb_l_emptied_l0 (c : Fn → DF) : DS := (sExpr (eCall (c .l_emptied) (aCons (eVar 1) aNil)))
def fb_l_emptied_l1 (c : Fn → DF) : DS := (sExpr (eHdlM popM (eVar 0) aNil))
def fb_l_emptied (c : Fn → DF) : DS := (sIf (tTru (eCB isiD (aCons (eVar 0) (aCons (eC (.ty "list")) aNil)))) (sSeq (sFor (iSq (eCB listD (aCons (eVar 0) aNil))) (gN 1) (fb_l_emptied_l0 c)) (sSeq (sFor (iRng1' (aCons (eCB lenD (aCons (eVar 0) aNil)) aNil)) (gN 2) (fb_l_emptied_l1 c)) (sExpr (eHdlM appD (eVar 0) (aCons (eC (.str "zz")) aNil))))) sNil)
def g_l_emptied (c : Fn → DF) : DF := runF 1 3 (fb_l_emptied c)
def fb_Record_sites (c : Fn → DF) : DS := (sRet (eBin ixD (eFld "Record" "told" (eVar 0)) (eC (.int 1))))
def g_Record_sites (c : Fn → DF) : DF := runF 1 1 (fb_Record_sites c)
def fb_parted_at_l0 (c : Fn → DF) : DS := (sIf (tVal (eBin neE (eVar 5) (eVar 6))) (sRet (eVar 4)) sNil)
def fb_parted_at (c : Fn → DF) : DS := (sSeq (sPar 2 3 (aCons (eMeth "Record" "entries" [] (c .Record_entries) (eVar 0) aNil) (aCons (eMeth "Record" "entries" [] (c .Record_entries) (eVar 1) aNil) aNil))) (sSeq (sFor (iEz' (aCons (eVar 2) (aCons (eVar 3) aNil))) (gT (gsCons (gN 4) (gsCons (gT (gsCons (gN 5) (gsCons (gN 6) gsNil))) gsNil))) (fb_parted_at_l0 c)) (sSeq (sIf (tVal (eBin (pu2 ltD) (eCB lenD (aCons (eVar 2) aNil)) (eCB lenD (aCons (eVar 3) aNil)))) (sRet (eIf (tVal (eBin (pu2 (isD false)) (eMeth "Record" "end" [] (c .Record_end) (eVar 0) aNil) (eC .non))) (eC .non) (eCB lenD (aCons (eVar 2) aNil)))) sNil) (sSeq (sIf (tVal (eBin (pu2 ltD) (eCB lenD (aCons (eVar 3) aNil)) (eCB lenD (aCons (eVar 2) aNil)))) (sRet (eIf (tVal (eBin (pu2 (isD false)) (eMeth "Record" "end" [] (c .Record_end) (eVar 1) aNil) (eC .non))) (eC .non) (eCB lenD (aCons (eVar 3) aNil)))) sNil) (sSeq (sIf (tOr' (tVal (eBin (pu2 (isD false)) (eMeth "Record" "end" [] (c .Record_end) (eVar 0) aNil) (eC .non))) (tOr' (tVal (eBin (pu2 (isD false)) (eMeth "Record" "end" [] (c .Record_end) (eVar 1) aNil) (eC .non))) (tVal (eBin eqE (eMeth "Record" "end" [] (c .Record_end) (eVar 0) aNil) (eMeth "Record" "end" [] (c .Record_end) (eVar 1) aNil))))) (sRet (eC .non)) sNil) (sRet (eCB lenD (aCons (eVar 2) aNil))))))))
def g_parted_at (c : Fn → DF) : DF := runF 2 7 (fb_parted_at c)
def g_NoFailing_init (c : Fn → DF) : DF := gX
def fb_Record_left (c : Fn → DF) : DS := (sSeq (sIf (tOr' (tNot' (tTru (eCB isiD (aCons (eVar 1) (aCons (eC (.ty "int")) aNil))))) (tOr' (tTru (eCB isiD (aCons (eVar 1) (aCons (eC (.ty "bool")) aNil)))) (tNot' (tVal (eChn (pu2 leD) (pu2 ltD) (eC (.int 0)) (eVar 1) (eCB lenD (aCons (eBin ixD (eFld "Record" "told" (eVar 0)) (eC (.int 0))) aNil))))))) (sRaise (c .NoFailing_init) "NoFailing" ["index"] (aCons (eVar 1) aNil)) sNil) (sSeq (sAsg 2 (eBin ixD (eBin ixD (eFld "Record" "told" (eVar 0)) (eC (.int 0))) (eVar 1))) (sSeq (sIf (tVal (eBin (pu2 (isD false)) (eBin ixD (eVar 2) (eC (.int 3))) (eC .non))) (sRaise (c .NoFailing_init) "NoFailing" ["index"] (aCons (eVar 1) aNil)) sNil) (sRet (eTup (aCons (eBin ixD (eVar 2) (eC (.int 2))) (aCons (eBin ixD (eVar 2) (eC (.int 3))) aNil)))))))
def g_Record_left (c : Fn → DF) : DF := runF 2 3 (fb_Record_left c)
def fb_l_left (c : Fn → DF) : DS := (sTryR 2 ext_NoFailing (sRet (eTup (aCons (eC (.str "left")) (aCons (eMeth "Record" "left" [] (c .Record_left) (eVar 0) (aCons (eVar 1) aNil)) aNil)))) (hTup (hCons (fun _ _ => (eC (.str "none"))) (hCons (hFld xtab "index") hNil))))
def g_l_left (c : Fn → DF) : DF := runF 2 3 (fb_l_left c)
def fb_l_lefts_hold_l0 (c : Fn → DF) : DS := (sSeq (sAsg 3 (eIf (tVal (eBin (pu2 (isD false)) (eBin ixD (eBin ixD (eVar 1) (eVar 2)) (eC (.int 3))) (eC .non))) (eTup (aCons (eC (.str "none")) (aCons (eVar 2) aNil))) (eTup (aCons (eC (.str "left")) (aCons (eTup (aCons (eBin ixD (eBin ixD (eVar 1) (eVar 2)) (eC (.int 2))) (aCons (eBin ixD (eBin ixD (eVar 1) (eVar 2)) (eC (.int 3))) aNil))) aNil))))) (sIf (tVal (eBin neE (eCall (c .l_left) (aCons (eVar 0) (aCons (eVar 2) aNil))) (eVar 3))) (sRet (eC (.bl false))) sNil))
def fb_l_lefts_hold_l1 (c : Fn → DF) : DS := (sIf (tVal (eBin neE (eCB reprD (aCons (eCall (c .l_left) (aCons (eVar 0) (aCons (eVar 4) aNil))) aNil)) (eCB reprD (aCons (eTup (aCons (eC (.str "none")) (aCons (eVar 4) aNil))) aNil)))) (sRet (eC (.bl false))) sNil)
def fb_l_lefts_hold (c : Fn → DF) : DS := (sSeq (sFor (iRng1' (aCons (eCB lenD (aCons (eVar 1) aNil)) aNil)) (gN 2) (fb_l_lefts_hold_l0 c)) (sSeq (sFor (iSq (eTup (aCons (eNeg (eC (.int 1))) (aCons (eCB lenD (aCons (eVar 1) aNil)) (aCons (eC .non) (aCons (eC (.bl true)) (aCons (eC (.str "0")) (aCons (eBin (pu2 powD) (eC (.int 10)) (eC (.int 20))) (aCons (eFrz (fLst (aCons (eC (.int 0)) aNil))) aNil))))))))) (gN 4) (fb_l_lefts_hold_l1 c)) (sRet (eC (.bl true)))))
def g_l_lefts_hold (c : Fn → DF) : DF := runF 2 5 (fb_l_lefts_hold c)
def fb_law_l0 (c : Fn → DF) : DS := (sSeq (sPar 8 9 (aCons (eCall (c .l_take) (aCons (eVar 1) (aCons (eBin addD (eCB lenD (aCons (eVar 5) aNil)) (eC (.int 1))) aNil))) (aCons (eCall (c .l_take) (aCons (eVar 1) (aCons (eC (.int 4)) aNil))) aNil))) (sIf (tVal (eBin eqE (eVar 9) (eC (.int 0)))) (sAsg 6 (eCall (c .l_end) (aCons (eVar 1) aNil))) (sIf (tVal (eBin eqE (eVar 9) (eC (.int 1)))) (sAsg 5 (eNew (fCut (eVar 5) oNone (oSome (eVar 8))))) (sIf (tVal (eBin eqE (eVar 9) (eC (.int 2)))) (sExpr (eHdlM insD (eVar 5) (aCons (eVar 8) (aCons (eCall (c .l_entry) (aCons (eVar 1) aNil)) aNil)))) (sCutP (eVar 5) (eFrz (fLst (aCons (eCall (c .l_entry) (aCons (eVar 1) aNil)) aNil))) (oSome (eVar 8)) (oSome (eBin addD (eVar 8) (eC (.int 1)))))))))
def fb_law_l1 (c : Fn → DF) : DS := (sExpr (eCall (c .l_emptied) (aCons (eVar 14) aNil)))
def fb_law_l2 (c : Fn → DF) : DS := (sIf (tOr' (tVal (eBin neE (eVar 17) (eVar 16))) (tTru (eCB isiD (aCons (eVar 17) (aCons (eC (.ty "bool")) aNil))))) (sRet (eC (.bl false))) sNil)
def fb_law_l3 (c : Fn → DF) : DS := (sSeq (sPar 3 4 (aCons (eFrz (fLc (iRng1' (aCons (eCall (c .l_take) (aCons (eVar 1) (aCons (eC (.int 5)) aNil))) aNil)) (gN 18) tTrue (eCall (c .l_entry) (aCons (eVar 1) aNil)) [18])) (aCons (eCall (c .l_end) (aCons (eVar 1) aNil)) aNil))) (sSeq (sPar 5 6 (aCons (eNew (fList (aCons (eVar 3) aNil))) (aCons (eVar 4) aNil))) (sSeq (sFor (iRng1' (aCons (eCall (c .l_take) (aCons (eVar 1) (aCons (eC (.int 3)) aNil))) aNil)) (gN 7) (fb_law_l0 c)) (sSeq (sPar 10 11 (aCons (eCall (c .l_lists) (aCons (eVar 3) aNil)) (aCons (eNew (fRng (eCB lenD (aCons (eVar 3) aNil)))) aNil))) (sSeq (sAsg 12 (eCall (c .l_lists) (aCons (eVar 4) aNil))) (sSeq (sAsg 13 (eMkL "Record" dl_Record_3 (c .Record_init) (aCons (eVar 10) (aCons (eVar 11) (aCons (eVar 12) aNil))))) (sSeq (sFor (iSq (eTup (aCons (eVar 10) (aCons (eVar 11) (aCons (eVar 12) aNil))))) (gN 14) (fb_law_l1 c)) (sSeq (sAsg 15 (eMkL "Record" dl_Record_3 (c .Record_init) (aCons (eCB tupleD (aCons (eVar 5) aNil)) (aCons (eCB tupleD (aCons (eFrz (fLc (iRng1' (aCons (eCB lenD (aCons (eVar 5) aNil)) aNil)) (gN 18) tTrue (eBin addD (eVar 18) (eC (.int 5))) [18])) aNil)) (aCons (eVar 6) aNil))))) (sSeq (sIf (tOr' (tVal (eBin neE (eMeth "Record" "entries" [] (c .Record_entries) (eVar 13) aNil) (eCB tupleD (aCons (eVar 3) aNil)))) (tOr' (tVal (eBin neE (eMeth "Record" "end" [] (c .Record_end) (eVar 13) aNil) (eVar 4))) (tVal (eBin neE (eMeth "Record" "sites" [] (c .Record_sites) (eVar 13) aNil) (eRngT (eCB lenD (aCons (eVar 3) aNil))))))) (sRet (eC (.bl false))) sNil) (sSeq (sIf (tOr' (tVal (eBin neE (eLenC "Record" (c .Record_len) (eVar 13)) (eCB lenD (aCons (eVar 3) aNil)))) (tOr' (tVal (eBin neE (eEqO false "Record" (c .Record_eq) (eVar 13) (eVar 15)) (eAnd (eBin eqE (eVar 3) (eVar 5)) (eBin eqE (eVar 4) (eVar 6))))) (tVal (eEqO false "Record" (c .Record_eq) (eVar 13) (eVar 4))))) (sRet (eC (.bl false))) sNil) (sSeq (sAsg 16 (eCall (c .l_due) (aCons (eTup (aCons (eVar 3) (aCons (eVar 4) aNil))) (aCons (eTup (aCons (eVar 5) (aCons (eVar 6) aNil))) aNil)))) (sSeq (sFor (iSq (eTup (aCons (eCall (c .parted_at) (aCons (eVar 13) (aCons (eVar 15) aNil))) (aCons (eCall (c .parted_at) (aCons (eVar 15) (aCons (eVar 13) aNil))) aNil)))) (gN 17) (fb_law_l2 c)) (sIf (tOr' (tVal (eBin (pu2 (isD true)) (eCall (c .parted_at) (aCons (eVar 13) (aCons (eVar 13) aNil))) (eC .non))) (tOr' (tNot' (tTru (eCall (c .l_lefts_hold) (aCons (eVar 13) (aCons (eVar 3) aNil))))) (tNot' (tTru (eCall (c .l_lefts_hold) (aCons (eVar 15) (aCons (eVar 5) aNil))))))) (sRet (eC (.bl false))) sNil)))))))))))))
def fb_law (c : Fn → DF) : DS := (sSeq (sAsg 1 (eCall (c .l_bag) (aCons (eVar 0) aNil))) (sSeq (sFor (iRng1' (aCons (eC (.int 6)) aNil)) (gN 2) (fb_law_l3 c)) (sRet (eC (.bl true)))))
def g_law (c : Fn → DF) : DF := runF 1 19 (fb_law c)
def step (c : Fn → DF) : Fn → DF
  | .Record_len => g_Record_len c
  | .l_bag => g_l_bag c
  | .as_tuples => g_as_tuples c
  | .Record_init => g_Record_init c
  | .l_lists => g_l_lists c
  | .Record_entries => g_Record_entries c
  | .Record_end => g_Record_end c
  | .Record_eq => g_Record_eq c
  | .l_due => g_l_due c
  | .l_take => g_l_take c
  | .l_one => g_l_one c
  | .l_entry => g_l_entry c
  | .l_end => g_l_end c
  | .l_emptied => g_l_emptied c
  | .Record_sites => g_Record_sites c
  | .parted_at => g_parted_at c
  | .NoFailing_init => g_NoFailing_init c
  | .Record_left => g_Record_left c
  | .l_left => g_l_left c
  | .l_lefts_hold => g_l_lefts_hold c
  | .law => g_law c
def calls : Nat → Fn → DF
  | 0 => fun _ => gNo
  | n + 1 => step (calls n)
theorem ev_Record_len (n : Nat) (S : Sto) (a0 : Dv) : calls (n + 1) .Record_len S [a0] = kRun (fb_Record_len (calls n) [.va a0] S) := ev_run S [a0] (fb_Record_len (calls n)) 1 1 rfl
theorem ev_l_bag (n : Nat) (S : Sto) (a0 : Dv) : calls (n + 1) .l_bag S [a0] = kRun (fb_l_bag (calls n) [.va a0, .no] S) := ev_run S [a0] (fb_l_bag (calls n)) 1 2 rfl
theorem ev_as_tuples (n : Nat) (S : Sto) (a0 : Dv) : calls (n + 1) .as_tuples S [a0] = kRun (fb_as_tuples (calls n) [.va a0, .no] S) := ev_run S [a0] (fb_as_tuples (calls n)) 1 2 rfl
theorem ev_Record_init (n : Nat) (S : Sto) (a0 a1 a2 a3 : Dv) : calls (n + 1) .Record_init S [a0, a1, a2, a3] = kRun (fb_Record_init (calls n) [.va a0, .va a1, .va a2, .va a3] S) := ev_run S [a0, a1, a2, a3] (fb_Record_init (calls n)) 4 4 rfl
theorem ev_l_lists (n : Nat) (S : Sto) (a0 : Dv) : calls (n + 1) .l_lists S [a0] = kRun (fb_l_lists (calls n) [.va a0, .no] S) := ev_run S [a0] (fb_l_lists (calls n)) 1 2 rfl
theorem ev_Record_entries (n : Nat) (S : Sto) (a0 : Dv) : calls (n + 1) .Record_entries S [a0] = kRun (fb_Record_entries (calls n) [.va a0] S) := ev_run S [a0] (fb_Record_entries (calls n)) 1 1 rfl
theorem ev_Record_end (n : Nat) (S : Sto) (a0 : Dv) : calls (n + 1) .Record_end S [a0] = kRun (fb_Record_end (calls n) [.va a0] S) := ev_run S [a0] (fb_Record_end (calls n)) 1 1 rfl
theorem ev_Record_eq (n : Nat) (S : Sto) (a0 a1 : Dv) : calls (n + 1) .Record_eq S [a0, a1] = kRun (fb_Record_eq (calls n) [.va a0, .va a1] S) := ev_run S [a0, a1] (fb_Record_eq (calls n)) 2 2 rfl
theorem ev_l_due (n : Nat) (S : Sto) (a0 a1 : Dv) : calls (n + 1) .l_due S [a0, a1] = kRun (fb_l_due (calls n) [.va a0, .va a1, .no, .no, .no, .no] S) := ev_run S [a0, a1] (fb_l_due (calls n)) 2 6 rfl
theorem ev_l_take (n : Nat) (S : Sto) (a0 a1 : Dv) : calls (n + 1) .l_take S [a0, a1] = kRun (fb_l_take (calls n) [.va a0, .va a1, .no, .no, .no, .no, .no] S) := ev_run S [a0, a1] (fb_l_take (calls n)) 2 7 rfl
theorem ev_l_one (n : Nat) (S : Sto) (a0 a1 : Dv) : calls (n + 1) .l_one S [a0, a1] = kRun (fb_l_one (calls n) [.va a0, .va a1] S) := ev_run S [a0, a1] (fb_l_one (calls n)) 2 2 rfl
theorem ev_l_entry (n : Nat) (S : Sto) (a0 : Dv) : calls (n + 1) .l_entry S [a0] = kRun (fb_l_entry (calls n) [.va a0, .no, .no, .no, .no, .no, .no] S) := ev_run S [a0] (fb_l_entry (calls n)) 1 7 rfl
theorem ev_l_end (n : Nat) (S : Sto) (a0 : Dv) : calls (n + 1) .l_end S [a0] = kRun (fb_l_end (calls n) [.va a0, .no] S) := ev_run S [a0] (fb_l_end (calls n)) 1 2 rfl
theorem ev_l_emptied (n : Nat) (S : Sto) (a0 : Dv) : calls (n + 1) .l_emptied S [a0] = kRun (fb_l_emptied (calls n) [.va a0, .no, .no] S) := ev_run S [a0] (fb_l_emptied (calls n)) 1 3 rfl
theorem ev_Record_sites (n : Nat) (S : Sto) (a0 : Dv) : calls (n + 1) .Record_sites S [a0] = kRun (fb_Record_sites (calls n) [.va a0] S) := ev_run S [a0] (fb_Record_sites (calls n)) 1 1 rfl
theorem ev_parted_at (n : Nat) (S : Sto) (a0 a1 : Dv) : calls (n + 1) .parted_at S [a0, a1] = kRun (fb_parted_at (calls n) [.va a0, .va a1, .no, .no, .no, .no, .no] S) := ev_run S [a0, a1] (fb_parted_at (calls n)) 2 7 rfl
theorem ev_Record_left (n : Nat) (S : Sto) (a0 a1 : Dv) : calls (n + 1) .Record_left S [a0, a1] = kRun (fb_Record_left (calls n) [.va a0, .va a1, .no] S) := ev_run S [a0, a1] (fb_Record_left (calls n)) 2 3 rfl
theorem ev_l_left (n : Nat) (S : Sto) (a0 a1 : Dv) : calls (n + 1) .l_left S [a0, a1] = kRun (fb_l_left (calls n) [.va a0, .va a1, .no] S) := ev_run S [a0, a1] (fb_l_left (calls n)) 2 3 rfl
theorem ev_l_lefts_hold (n : Nat) (S : Sto) (a0 a1 : Dv) : calls (n + 1) .l_lefts_hold S [a0, a1] = kRun (fb_l_lefts_hold (calls n) [.va a0, .va a1, .no, .no, .no] S) := ev_run S [a0, a1] (fb_l_lefts_hold (calls n)) 2 5 rfl
theorem ev_law (n : Nat) (S : Sto) (a0 : Dv) : calls (n + 1) .law S [a0] = kRun (fb_law (calls n) [.va a0, .no, .no, .no, .no, .no, .no, .no, .no, .no, .no, .no, .no, .no, .no, .no, .no, .no, .no] S) := ev_run S [a0] (fb_law (calls n)) 1 19 rfl
end DL
namespace Row
open PySem L2 DL
def top (i : Nat) : Stmt := PySem.Challenge.pw_foundtwice_k38_records_told.main.body.getD i (.Pass ⟨0, 0, 0, 0⟩)
def inr (i j : Nat) : Stmt := match top i with
  | .ClassDef _ _ _ body _ _ _ _ _ _ _ => body.getD j (.Pass ⟨0, 0, 0, 0⟩)
  | s => s
abbrev st_Record_len : Stmt := inr 6 2
theorem sc_Record_len : FnScope ["self"] ["self"] (defScope st_Record_len) := ⟨rfl, rfl, rfl, by decide +kernel, rfl, by decide +kernel, by decide +kernel⟩
theorem bi_Record_len : BindN "__len__" "Record.__len__" st_Record_len ["self"] := fun _ _ _ _ _ _ us hl => match us, hl with | [_], _ => rfl
abbrev st_l_bag : Stmt := top 9
theorem sc_l_bag : FnScope ["_law_script", "_law_cell"] ["_law_script"] (defScope st_l_bag) := ⟨rfl, rfl, rfl, by decide +kernel, rfl, by decide +kernel, by decide +kernel⟩
theorem bi_l_bag : BindN "_law_bag" "_law_bag" st_l_bag ["_law_script"] := fun _ _ _ _ _ _ us hl => match us, hl with | [_], _ => rfl
abbrev st_as_tuples : Stmt := top 4
theorem sc_as_tuples : FnScope ["thing", "member"] ["thing"] (defScope st_as_tuples) := ⟨rfl, rfl, rfl, by decide +kernel, rfl, by decide +kernel, by decide +kernel⟩
theorem bi_as_tuples : BindN "as_tuples" "as_tuples" st_as_tuples ["thing"] := fun _ _ _ _ _ _ us hl => match us, hl with | [_], _ => rfl
abbrev st_Record_init : Stmt := inr 6 0
theorem sc_Record_init : FnScope ["self", "entries", "sites", "end"] ["self", "entries", "sites", "end"] (defScope st_Record_init) := ⟨rfl, rfl, rfl, by decide +kernel, rfl, by decide +kernel, by decide +kernel⟩
theorem bi_Record_init : BindN "__init__" "Record.__init__" st_Record_init ["self", "entries", "sites", "end"] := fun _ _ _ _ _ _ us hl => match us, hl with | [_, _, _, _], _ => rfl
abbrev st_l_lists : Stmt := top 15
theorem sc_l_lists : FnScope ["_law_thing", "_law_part"] ["_law_thing"] (defScope st_l_lists) := ⟨rfl, rfl, rfl, by decide +kernel, rfl, by decide +kernel, by decide +kernel⟩
theorem bi_l_lists : BindN "_law_lists" "_law_lists" st_l_lists ["_law_thing"] := fun _ _ _ _ _ _ us hl => match us, hl with | [_], _ => rfl
abbrev st_Record_entries : Stmt := inr 6 3
theorem sc_Record_entries : FnScope ["self"] ["self"] (defScope st_Record_entries) := ⟨rfl, rfl, rfl, by decide +kernel, rfl, by decide +kernel, by decide +kernel⟩
theorem bi_Record_entries : BindN "entries" "Record.entries" st_Record_entries ["self"] := fun _ _ _ _ _ _ us hl => match us, hl with | [_], _ => rfl
abbrev st_Record_end : Stmt := inr 6 5
theorem sc_Record_end : FnScope ["self"] ["self"] (defScope st_Record_end) := ⟨rfl, rfl, rfl, by decide +kernel, rfl, by decide +kernel, by decide +kernel⟩
theorem bi_Record_end : BindN "end" "Record.end" st_Record_end ["self"] := fun _ _ _ _ _ _ us hl => match us, hl with | [_], _ => rfl
abbrev st_Record_eq : Stmt := inr 6 1
theorem sc_Record_eq : FnScope ["self", "other"] ["self", "other"] (defScope st_Record_eq) := ⟨rfl, rfl, rfl, by decide +kernel, rfl, by decide +kernel, by decide +kernel⟩
theorem bi_Record_eq : BindN "__eq__" "Record.__eq__" st_Record_eq ["self", "other"] := fun _ _ _ _ _ _ us hl => match us, hl with | [_, _], _ => rfl
abbrev st_l_due : Stmt := top 14
theorem sc_l_due : FnScope ["_law_one_here", "_law_other", "_law_ends", "_law_entries", "_law_end_here", "_law_at"] ["_law_one_here", "_law_other"] (defScope st_l_due) := ⟨rfl, rfl, rfl, by decide +kernel, rfl, by decide +kernel, by decide +kernel⟩
theorem bi_l_due : BindN "_law_due" "_law_due" st_l_due ["_law_one_here", "_law_other"] := fun _ _ _ _ _ _ us hl => match us, hl with | [_, _], _ => rfl
abbrev st_l_take : Stmt := top 10
theorem sc_l_take : FnScope ["_law_bag_here", "_law_many", "_law_cell", "_law_mixed", "_law_drawn", "_law_early", "_law_second"] ["_law_bag_here", "_law_many"] (defScope st_l_take) := ⟨rfl, rfl, rfl, by decide +kernel, rfl, by decide +kernel, by decide +kernel⟩
theorem bi_l_take : BindN "_law_take" "_law_take" st_l_take ["_law_bag_here", "_law_many"] := fun _ _ _ _ _ _ us hl => match us, hl with | [_, _], _ => rfl
abbrev st_l_one : Stmt := top 11
theorem sc_l_one : FnScope ["_law_bag_here", "_law_some"] ["_law_bag_here", "_law_some"] (defScope st_l_one) := ⟨rfl, rfl, rfl, by decide +kernel, rfl, by decide +kernel, by decide +kernel⟩
theorem bi_l_one : BindN "_law_one" "_law_one" st_l_one ["_law_bag_here", "_law_some"] := fun _ _ _ _ _ _ us hl => match us, hl with | [_, _], _ => rfl
abbrev st_l_entry : Stmt := top 12
theorem sc_l_entry : FnScope ["_law_bag_here", "_law_cells", "_law_names", "_law_way", "_law_given", "_law_k", "_law_name"] ["_law_bag_here"] (defScope st_l_entry) := ⟨rfl, rfl, rfl, by decide +kernel, rfl, by decide +kernel, by decide +kernel⟩
theorem bi_l_entry : BindN "_law_entry" "_law_entry" st_l_entry ["_law_bag_here"] := fun _ _ _ _ _ _ us hl => match us, hl with | [_], _ => rfl
abbrev st_l_end : Stmt := top 13
theorem sc_l_end : FnScope ["_law_bag_here", "_law_entry_here"] ["_law_bag_here"] (defScope st_l_end) := ⟨rfl, rfl, rfl, by decide +kernel, rfl, by decide +kernel, by decide +kernel⟩
theorem bi_l_end : BindN "_law_end" "_law_end" st_l_end ["_law_bag_here"] := fun _ _ _ _ _ _ us hl => match us, hl with | [_], _ => rfl
abbrev st_l_emptied : Stmt := top 16
theorem sc_l_emptied : FnScope ["_law_thing", "_law_part", "_law_k"] ["_law_thing"] (defScope st_l_emptied) := ⟨rfl, rfl, rfl, by decide +kernel, rfl, by decide +kernel, by decide +kernel⟩
theorem bi_l_emptied : BindN "_law_emptied" "_law_emptied" st_l_emptied ["_law_thing"] := fun _ _ _ _ _ _ us hl => match us, hl with | [_], _ => rfl
abbrev st_Record_sites : Stmt := inr 6 4
theorem sc_Record_sites : FnScope ["self"] ["self"] (defScope st_Record_sites) := ⟨rfl, rfl, rfl, by decide +kernel, rfl, by decide +kernel, by decide +kernel⟩
theorem bi_Record_sites : BindN "sites" "Record.sites" st_Record_sites ["self"] := fun _ _ _ _ _ _ us hl => match us, hl with | [_], _ => rfl
abbrev st_parted_at : Stmt := top 7
theorem sc_parted_at : FnScope ["one", "other", "mine", "others", "at", "entry", "another"] ["one", "other"] (defScope st_parted_at) := ⟨rfl, rfl, rfl, by decide +kernel, rfl, by decide +kernel, by decide +kernel⟩
theorem bi_parted_at : BindN "parted_at" "parted_at" st_parted_at ["one", "other"] := fun _ _ _ _ _ _ us hl => match us, hl with | [_, _], _ => rfl
abbrev st_NoFailing_init : Stmt := inr 2 0
theorem sc_NoFailing_init : FnScope ["self", "index"] ["self", "index"] (defScope st_NoFailing_init) := ⟨rfl, rfl, rfl, by decide +kernel, rfl, by decide +kernel, by decide +kernel⟩
theorem bi_NoFailing_init : BindN "__init__" "NoFailing.__init__" st_NoFailing_init ["self", "index"] := fun _ _ _ _ _ _ us hl => match us, hl with | [_, _], _ => rfl
abbrev st_Record_left : Stmt := inr 6 6
theorem sc_Record_left : FnScope ["self", "index", "entry"] ["self", "index"] (defScope st_Record_left) := ⟨rfl, rfl, rfl, by decide +kernel, rfl, by decide +kernel, by decide +kernel⟩
theorem bi_Record_left : BindN "left" "Record.left" st_Record_left ["self", "index"] := fun _ _ _ _ _ _ us hl => match us, hl with | [_, _], _ => rfl
abbrev st_l_left : Stmt := top 17
theorem sc_l_left : FnScope ["_law_record", "_law_index", "e"] ["_law_record", "_law_index"] (defScope st_l_left) := ⟨rfl, rfl, rfl, by decide +kernel, rfl, by decide +kernel, by decide +kernel⟩
theorem bi_l_left : BindN "_law_left" "_law_left" st_l_left ["_law_record", "_law_index"] := fun _ _ _ _ _ _ us hl => match us, hl with | [_, _], _ => rfl
abbrev st_l_lefts_hold : Stmt := top 18
theorem sc_l_lefts_hold : FnScope ["_law_record", "_law_entries", "_law_at", "_law_due_here", "_law_odd"] ["_law_record", "_law_entries"] (defScope st_l_lefts_hold) := ⟨rfl, rfl, rfl, by decide +kernel, rfl, by decide +kernel, by decide +kernel⟩
theorem bi_l_lefts_hold : BindN "_law_lefts_hold" "_law_lefts_hold" st_l_lefts_hold ["_law_record", "_law_entries"] := fun _ _ _ _ _ _ us hl => match us, hl with | [_, _], _ => rfl
abbrev st_law : Stmt := top 19
theorem sc_law : FnScope ["_law_script", "_law_bag_here", "_law_turn", "_law_entries", "_law_end_here", "_law_others", "_law_last", "_law_time", "_law_at", "_law_way", "_law_passed", "_law_sites", "_law_last_one", "_law_one_here", "_law_thing", "_law_other", "_law_due_here", "_law_found", "_law_k"] ["_law_script"] (defScope st_law) := ⟨rfl, rfl, rfl, by decide +kernel, rfl, by decide +kernel, by decide +kernel⟩
theorem bi_law : BindN "law" "law" st_law ["_law_script"] := fun _ _ _ _ _ _ us hl => match us, hl with | [_], _ => rfl
def dd_Record_len : Dfn := ⟨fun K => He.ma K (He.ga K "Record") "__len__", "__len__", "Record.__len__", defArgs st_Record_len, defBody st_Record_len, defScope st_Record_len, [], []⟩
def dd_l_bag : Dfn := ⟨fun K => He.ga K "_law_bag", "_law_bag", "_law_bag", defArgs st_l_bag, defBody st_l_bag, defScope st_l_bag, [], []⟩
def dd_as_tuples : Dfn := ⟨fun K => He.ga K "as_tuples", "as_tuples", "as_tuples", defArgs st_as_tuples, defBody st_as_tuples, defScope st_as_tuples, [], []⟩
def dd_Record_init : Dfn := ⟨fun K => He.ma K (He.ga K "Record") "__init__", "__init__", "Record.__init__", defArgs st_Record_init, defBody st_Record_init, defScope st_Record_init, [], []⟩
def dd_l_lists : Dfn := ⟨fun K => He.ga K "_law_lists", "_law_lists", "_law_lists", defArgs st_l_lists, defBody st_l_lists, defScope st_l_lists, [], []⟩
def dd_Record_entries : Dfn := ⟨fun K => He.ma K (He.ga K "Record") "entries", "entries", "Record.entries", defArgs st_Record_entries, defBody st_Record_entries, defScope st_Record_entries, [], []⟩
def dd_Record_end : Dfn := ⟨fun K => He.ma K (He.ga K "Record") "end", "end", "Record.end", defArgs st_Record_end, defBody st_Record_end, defScope st_Record_end, [], []⟩
def dd_Record_eq : Dfn := ⟨fun K => He.ma K (He.ga K "Record") "__eq__", "__eq__", "Record.__eq__", defArgs st_Record_eq, defBody st_Record_eq, defScope st_Record_eq, [], []⟩
def dd_l_due : Dfn := ⟨fun K => He.ga K "_law_due", "_law_due", "_law_due", defArgs st_l_due, defBody st_l_due, defScope st_l_due, [], []⟩
def dd_l_take : Dfn := ⟨fun K => He.ga K "_law_take", "_law_take", "_law_take", defArgs st_l_take, defBody st_l_take, defScope st_l_take, [], []⟩
def dd_l_one : Dfn := ⟨fun K => He.ga K "_law_one", "_law_one", "_law_one", defArgs st_l_one, defBody st_l_one, defScope st_l_one, [], []⟩
def dd_l_entry : Dfn := ⟨fun K => He.ga K "_law_entry", "_law_entry", "_law_entry", defArgs st_l_entry, defBody st_l_entry, defScope st_l_entry, [], []⟩
def dd_l_end : Dfn := ⟨fun K => He.ga K "_law_end", "_law_end", "_law_end", defArgs st_l_end, defBody st_l_end, defScope st_l_end, [], []⟩
def dd_l_emptied : Dfn := ⟨fun K => He.ga K "_law_emptied", "_law_emptied", "_law_emptied", defArgs st_l_emptied, defBody st_l_emptied, defScope st_l_emptied, [], []⟩
def dd_Record_sites : Dfn := ⟨fun K => He.ma K (He.ga K "Record") "sites", "sites", "Record.sites", defArgs st_Record_sites, defBody st_Record_sites, defScope st_Record_sites, [], []⟩
def dd_parted_at : Dfn := ⟨fun K => He.ga K "parted_at", "parted_at", "parted_at", defArgs st_parted_at, defBody st_parted_at, defScope st_parted_at, [], []⟩
def dd_NoFailing_init : Dfn := ⟨fun K => He.ma K (He.ga K "NoFailing") "__init__", "__init__", "NoFailing.__init__", defArgs st_NoFailing_init, defBody st_NoFailing_init, defScope st_NoFailing_init, [], []⟩
def dd_Record_left : Dfn := ⟨fun K => He.ma K (He.ga K "Record") "left", "left", "Record.left", defArgs st_Record_left, defBody st_Record_left, defScope st_Record_left, [], []⟩
def dd_l_left : Dfn := ⟨fun K => He.ga K "_law_left", "_law_left", "_law_left", defArgs st_l_left, defBody st_l_left, defScope st_l_left, [], []⟩
def dd_l_lefts_hold : Dfn := ⟨fun K => He.ga K "_law_lefts_hold", "_law_lefts_hold", "_law_lefts_hold", defArgs st_l_lefts_hold, defBody st_l_lefts_hold, defScope st_l_lefts_hold, [], []⟩
def dd_law : Dfn := ⟨fun K => He.ga K "law", "law", "law", defArgs st_law, defBody st_law, defScope st_law, [], []⟩
def fn : List Dfn := [dd_Record_len, dd_l_bag, dd_as_tuples, dd_Record_init, dd_l_lists, dd_Record_entries, dd_Record_end, dd_Record_eq, dd_l_due, dd_l_take, dd_l_one, dd_l_entry, dd_l_end, dd_l_emptied, dd_Record_sites, dd_parted_at, dd_NoFailing_init, dd_Record_left, dd_l_left, dd_l_lefts_hold, dd_law]
def ts : List He.Tab := []
def fa0 : List Ft := [.free "abs", .free "bool", .free "enumerate", .free "int", .free "isinstance", .free "len", .free "list", .free "min", .free "range", .free "repr", .free "tuple", .free "zip", .glo "_law_bag", .glo "as_tuples", .glo "_law_lists", .glo "_law_due", .glo "_law_take", .glo "_law_one", .glo "_law_entry", .glo "_law_end"]
def fa1 : List Ft := [.glo "_law_emptied", .glo "parted_at", .glo "_law_left", .glo "_law_lefts_hold", .glo "law", .glo "FoundError", .glo "NoFailing", .glo "Record", faB (.cls "Record"), faB (.mkr "Record"), faB (.noat "Record" "told"), isoB "Record" su_Record, eqfB "Record", feB "FoundError", xcB "NoFailing" ["index"], xtB xtab, extB "NoFailing" ext_NoFailing, faB (.meth "Record" "__len__"), faB (.meth "Record" "entries"), faB (.meth "Record" "end")]
def fa2 : List Ft := [faB (.meth "Record" "__eq__"), faB (.meth "Record" "sites"), faB (.meth "Record" "left")]
def fa : List Ft := fa0 ++ fa1 ++ fa2
def loose0 : List PySem.Str := ["FoundError", "NoFailing", "as_tuples", "Record", "parted_at", "_law_bag", "_law_take", "_law_one", "_law_entry", "_law_end", "_law_due", "_law_lists", "_law_emptied", "_law_left", "_law_lefts_hold"]
def loose : List PySem.Str := loose0
abbrev R : PySem.W.OpenRow := PySem.W.OpenLaw.row PySem.Challenge.rw_foundtwice_k38_records_told
abbrev hk : PySem.W.Hook := hookA 1500 fa fn ts
def ob (s : PySem.W.SharedT) : AlN := obsNA 1500 fa fn ts (HandSHeadRun.getT s)
theorem ob_eq (s : PySem.W.SharedT) : ob s = hk.obs s.abs := obsNA_eq (HandSHeadRun.getT_eq s)
theorem map3 {A B C D : Type} {x : Option A} {f : A → B} {g : A → C} {h : A → D} {a : B} {b : C} {c : D} (h1 : x.map f = some a) (h2 : x.map g = some b) (h3 : x.map h = some c) : x.map (fun s => (f s, g s, h s)) = some (a, b, c) := by
  cases x with
  | none => cases h1
  | some s =>
    injection h1 with h1
    injection h2 with h2
    injection h3 with h3
    show some (f s, g s, h s) = _
    rw [h1, h2, h3]
open PySem.W PySem.Calls PyProof.Rows in
theorem run_w1 (w : World) (os : OsState) : (HandSHeadRun.endF (HandSHeadRun.stepQ (HandSHeadRun.denQ HandSHeadRun.tabQ) R.prog w) 20000 R.prog w os).map (fun s => HandSHeadRun.looksF R.prog (boot_heap (w).params) s.abs) = some true := by
  kernel_rfl
open PySem.W PySem.Calls PyProof.Rows in
theorem run_w2 (w : World) (os : OsState) : (HandSHeadRun.endF (HandSHeadRun.stepQ (HandSHeadRun.denQ HandSHeadRun.tabQ) R.prog w) 20000 R.prog w os).map (fun s => HandSHeadRun.seenQ (PySem.W.view R.prog [19]) loose (importedModules R.prog.main.body) (fun s => xlAt (PySem.W.view R.prog [19]) [] s && recOk R.toRowW.records s) s.abs) = some (openGood (PySem.W.view R.prog [19]) loose) := by
  kernel_rfl
open PySem.W PySem.Calls PyProof.Rows in
theorem run_w3 (w : World) (os : OsState) : (HandSHeadRun.endF (HandSHeadRun.stepQ (HandSHeadRun.denQ HandSHeadRun.tabQ) R.prog w) 20000 R.prog w os).map (fun s => ob s) = some (hk.val w) := by
  kernel_rfl
theorem run_w (w : World) : HandSHeadRun.RunEq R (PySem.W.view R.prog [19]) hk ob 20000 loose w := fun os => map3 (run_w1 w os) (run_w2 w os) (run_w3 w os)
theorem run (w : World) : HandSHeadRun.RunEq R (PySem.W.view R.prog [19]) hk ob 20000 loose w := run_w w
end Row
namespace DL
open PySem L2
def bagOb (c0 c1 c2 : Int) (cells : List Int) : Ob := .lst [.int c0, .int c1, .int c2, .lst (cells.map Dv.int)]
def BagOk (o : Ob) : Prop := ∃ (c0 c1 c2 : Int) (cells : List Int), o = bagOb c0 c1 c2 cells ∧ 0 ≤ c0 ∧ 0 ≤ c1 ∧ c1 < 2147483647 ∧ 0 ≤ c2 ∧ ∀ c ∈ cells, 0 ≤ c
def BagAt (S : Sto) (b : Nat) : Prop := ∃ o, S[b]? = some o ∧ BagOk o
theorem take_ok (m : Nat) {S : Sto} {b : Nat} {n : Int} (hB : BagAt S b) (hn : 0 < n) (hn2 : n < 1073741824) : ∃ r o, calls (m + 1) .l_take S [.hdl b, .int n] = .ok (.int r) (S.set b o) ∧ 0 ≤ r ∧ r < n ∧ BagOk o := by
  obtain ⟨o, h, c0, c1, c2, cells, rfl, k0, k1, k2, k3, k4⟩ := hB
  have hset : ∀ x : Ob, (S.set b x)[b]? = some x := fun x => by rw [List.getElem?_set, if_pos rfl, if_pos (List.getElem?_eq_some_iff.mp h).1]
  have nl : (0 : Int) ≤ c2 + 1 := by omega
  have hm : ∀ x : Int, 0 ≤ x % n ∧ x % n < n := fun x => ⟨Int.emod_nonneg _ (by omega), Int.emod_lt_of_pos _ hn⟩
  have hp : ∀ x : Int, 0 ≤ x % 2147483647 ∧ x % 2147483647 < 2147483647 := fun x => ⟨Int.emod_nonneg _ (by decide), Int.emod_lt_of_pos _ (by decide)⟩
  have hd : ∀ x : Int, 0 ≤ x → 0 ≤ x / n := fun x hx => Int.ediv_nonneg hx (by omega)
  unfold bagOb at h
  by_cases h0 : c0 = 0
  · subst h0
    have mul1 : -(2 ^ 64) < c1 ∧ c1 < 2 ^ 64 := by omega
    have cell : ∃ c : Int, 0 ≤ c ∧ ((c2 < (cells.length : Int) ∧ atI (cells.map Dv.int) c2 = some (.int c)) ∨ (¬ c2 < (cells.length : Int) ∧ c = 0)) := by
      by_cases hl : c2 < (cells.length : Int)
      · have hl2 : c2.toNat < cells.length := by omega
        exact ⟨cells[c2.toNat], k4 _ (List.getElem_mem hl2), .inl ⟨hl, by unfold atI; rw [List.length_map, ixN_ok k3 hl]; simp [hl2]⟩⟩
      · exact ⟨0, Int.le_refl _, .inr ⟨hl, rfl⟩⟩
    obtain ⟨c, hc, hcell⟩ := cell
    by_cases hbig : 1000000000000000000 ≤ c
    · have c0p : (0 : Int) < c := by omega
      refine ⟨c % n, bagOb (c / n) ((c1 * 48271 + c % 2147483647 + 7919 * (c2 + 1)) % 2147483647) (c2 + 1) cells, ?_, (hm c).1, (hm c).2, _, _, _, _, rfl, hd c hc, (hp _).1, (hp _).2, nl, k4⟩
      unfold bagOb
      rcases hcell with ⟨hl, e⟩ | ⟨hl, e⟩
      · simp [ev_l_take, fb_l_take, op_mul_i, op_mod_i, op_fdiv_i, hn, hn2, ixN_ok, h, hl, hset, hbig, k3, c0p, mul1, e]
      · subst e
        omega
    · have key : ∃ c1' : Int, 0 ≤ c1' ∧ c1' < 2147483647 ∧ calls (m + 1) .l_take S [.hdl b, .int n] = .ok (.int (((((c1' + 1) * 39373 % 1000000007) * ((c1' + 1) * 39373 % 1000000007) % 998244353 * 30011) % 998244353) / 7 % n)) (S.set b (bagOb 0 c1' (c2 + 1) cells)) := by
        refine ⟨(c1 * 48271 + c % 2147483647 + 7919 * (c2 + 1)) % 2147483647, (hp _).1, (hp _).2, ?_⟩
        obtain ⟨q1, q2⟩ := hp (c1 * 48271 + c % 2147483647 + 7919 * (c2 + 1))
        have nbig : ¬ (1000000000000000000 ≤ c) := hbig
        rcases hcell with ⟨hl, e⟩ | ⟨hl, e⟩
        · unfold bagOb
          generalize hw : (c1 * 48271 + c % 2147483647 + 7919 * (c2 + 1)) % 2147483647 = w1 at *
          have m1 : -(2 ^ 64) < w1 + 1 ∧ w1 + 1 < 2 ^ 64 := by omega
          have m2 : -(2 ^ 64) < (w1 + 1) * 39373 % 1000000007 ∧ (w1 + 1) * 39373 % 1000000007 < 2 ^ 64 := by omega
          have m3 := fun S' : Sto => op_mul_i S' _ ((w1 + 1) * 39373 % 1000000007) (.inl m2)
          simp [ev_l_take, fb_l_take, op_mul_i, op_mod_i, op_fdiv_i, hn, hn2, ixN_ok, h, hl, hset, nbig, k3, mul1, e, hw, m1, m3]
        · subst e
          unfold bagOb
          generalize hw : (c1 * 48271 + (0 : Int) % 2147483647 + 7919 * (c2 + 1)) % 2147483647 = w1 at *
          have m1 : -(2 ^ 64) < w1 + 1 ∧ w1 + 1 < 2 ^ 64 := by omega
          have m2 : -(2 ^ 64) < (w1 + 1) * 39373 % 1000000007 ∧ (w1 + 1) * 39373 % 1000000007 < 2 ^ 64 := by omega
          have m3 := fun S' : Sto => op_mul_i S' _ ((w1 + 1) * 39373 % 1000000007) (.inl m2)
          have hw2 : (c1 * 48271 + 7919 * (c2 + 1)) % 2147483647 = w1 := by rw [← hw]; simp
          simp [ev_l_take, fb_l_take, op_mul_i, op_mod_i, op_fdiv_i, hn, hn2, ixN_ok, h, hl, hset, k3, mul1, hw2, m1, m3]
      obtain ⟨c1', w1, w2, e⟩ := key
      exact ⟨_, _, e, (hm _).1, (hm _).2, _, _, _, _, rfl, Int.le_refl _, w1, w2, nl, k4⟩
  · have h1 : 0 < c0 := by omega
    refine ⟨c0 % n, bagOb (c0 / n) c1 c2 cells, ?_, (hm c0).1, (hm c0).2, _, _, _, _, rfl, hd c0 k0, k1, k2, k3, k4⟩
    unfold bagOb
    simp [ev_l_take, fb_l_take, op_mul_i, op_mod_i, op_fdiv_i, hn, hn2, ixN_ok, h, h0, h1]
theorem cutG_map {α β : Type} (f : α → β) (l : List α) (lo hi : Option Int) : cutG (l.map f) lo hi = (cutG l lo hi).map f := by
  unfold cutG
  rw [List.length_map, List.map_take, List.map_drop]
theorem cutG_len {α : Type} (l : List α) (lo hi : Option Int) : (cutG l lo hi).length ≤ l.length := by
  unfold cutG
  rw [List.length_take, List.length_drop]
  omega
theorem lc_abs (x : Sl) (S : Sto) : ∀ ms : List Int, lcR (gN 1) tTrue (eCB absD (aCons (eVar 1) aNil)) [x, .no] (ms.map Dv.int) S = .ok ((ms.map fun m => if m < 0 then -m else m).map Dv.int) S
  | [] => rfl
  | m :: r => by
    simp [lcR, tTrue, lc_abs x S r]
theorem bag_ok (m : Nat) (S : Sto) (ns : List Int) (h : ns.length ≤ 63) : ∃ o, calls (m + 1) .l_bag S [.rol (ns.map .int)] = .ok (.hdl S.length) (S ++ [o]) ∧ BagOk o := by
  have hl : (List.map Dv.int ((cutG ns none (some 63)).map fun m => if m < 0 then -m else m)).length ≤ sizeLine := by
    rw [List.length_map, List.length_map]
    exact line_le _ (by have := cutG_len ns none (some 63); omega)
  refine ⟨bagOb 0 1234567891 0 ((cutG ns none (some 63)).map fun m => if m < 0 then -m else m), ?_, 0, 1234567891, 0, _, rfl, by decide, by decide, by decide, by decide, fun c hc => ?_⟩
  · unfold bagOb
    rw [List.map_map] at hl
    simp [ev_l_bag, fb_l_bag, cutG_map, lc_abs, kLcEnd_ok _ _ hl]
  · obtain ⟨m, _, rfl⟩ := List.mem_map.mp hc
    split <;> omega
theorem BagAt.lt {S : Sto} {b : Nat} (h : BagAt S b) : b < S.length := by obtain ⟨o, h, _⟩ := h; exact (List.getElem?_eq_some_iff.mp h).1
theorem BagAt.set {S : Sto} {b : Nat} {o : Ob} (h : BagAt S b) (ho : BagOk o) : BagAt (S.set b o) b := ⟨o, by rw [List.getElem?_set, if_pos rfl, if_pos h.lt], ho⟩
theorem BagAt.app {S : Sto} {b : Nat} {o : Ob} (h : BagAt S b) : BagAt (S ++ [o]) b := by
  obtain ⟨q, h1, h2⟩ := h
  exact ⟨q, by rw [List.getElem?_append_left (List.getElem?_eq_some_iff.mp h1).1]; exact h1, h2⟩
end DL
namespace DL
open PySem L2
def Lf (d : Dv) : Prop := d = .non ∨ (∃ i, d = .int i) ∨ ∃ x, d = .str x ∧ (PyData.str x).canLay0 = true
def PT : Nat → Dv → Prop
  | 0, d => Lf d
  | n + 1, d => Lf d ∨ ∃ l, d = .tup l ∧ l.length ≤ 1000 ∧ ∀ x ∈ l, PT n x
theorem Lf.pl {d : Dv} (h : Lf d) (n : Nat) : Pl n d := by
  rcases h with rfl | ⟨i, rfl⟩ | ⟨x, rfl, h⟩
  · exact pl_non n
  · exact pl_int n i
  · exact pl_str h
theorem Lf.pt {d : Dv} (h : Lf d) (n : Nat) : PT n d := by cases n with
  | zero => exact h
  | succ n => exact .inl h
theorem PT.pl : ∀ {n : Nat} {d : Dv}, PT n d → Pl n d
  | 0, _, h => Lf.pl h 0
  | n + 1, _, h => by
    rcases h with h | ⟨l, rfl, _, h⟩
    · exact h.pl _
    · exact pl_tup fun x hx => (h x hx).pl
theorem PT.up : ∀ {n m : Nat} {d : Dv}, PT n d → n ≤ m → PT m d
  | 0, m, _, h, _ => Lf.pt h m
  | n + 1, m, _, h, hm => by
    obtain ⟨m, rfl⟩ : ∃ k, m = k + 1 := ⟨m - 1, by omega⟩
    rcases h with h | ⟨l, rfl, h1, h⟩
    · exact h.pt _
    · exact .inr ⟨l, rfl, h1, fun x hx => (h x hx).up (by omega)⟩
theorem noHs_of : ∀ {l : List Dv}, (∀ x ∈ l, noH x = true) → noHs l = true
  | [], _ => rfl
  | d :: l, h => by
    show (noH d && noHs l) = true
    rw [h d (List.mem_cons_self ..), noHs_of fun x hx => h x (List.mem_cons_of_mem _ hx)]; rfl
theorem pureDs_of : ∀ {l : List Dv}, (∀ x ∈ l, pureD x = true) → pureDs l = true
  | [], _ => rfl
  | d :: l, h => by
    show (pureD d && pureDs l) = true
    rw [h d (List.mem_cons_self ..), pureDs_of fun x hx => h x (List.mem_cons_of_mem _ hx)]; rfl
theorem Lf.noH {d : Dv} (h : Lf d) : DL.noH d = true := by rcases h with rfl | ⟨i, rfl⟩ | ⟨x, rfl, h⟩ <;> rfl
theorem Lf.pure {d : Dv} (h : Lf d) : pureD d = true := by rcases h with rfl | ⟨i, rfl⟩ | ⟨x, rfl, h⟩ <;> rfl
theorem PT.noH : ∀ {n : Nat} {d : Dv}, PT n d → DL.noH d = true
  | 0, _, h => Lf.noH h
  | n + 1, _, h => by
    rcases h with h | ⟨l, rfl, _, h⟩
    · exact h.noH
    · exact noHs_of fun x hx => (h x hx).noH
theorem PT.pure : ∀ {n : Nat} {d : Dv}, PT n d → pureD d = true
  | 0, _, h => Lf.pure h
  | n + 1, _, h => by
    rcases h with h | ⟨l, rfl, _, h⟩
    · exact h.pure
    · exact pureDs_of fun x hx => (h x hx).pure
def pd (d : Dv) : PyData := (toP d).getD .none
theorem toP_some {d : Dv} {p : PyData} (h : Rp d p) : toP d = some p := h 0 []
theorem Pl.rp {n : Nat} {d : Dv} (h : Pl n d) : Rp d (pd d) ∧ (pd d).canLay0 = true ∧ (pd d).depth ≤ n := by
  obtain ⟨p, a, b, c⟩ := h
  have : pd d = p := by unfold pd; rw [toP_some a]; rfl
  rw [this]; exact ⟨a, b, c⟩
def eqB (a b : Dv) : Bool := PyData.eqv (pd a) (pd b)
def eqL (l m : List Dv) : Bool := PyData.eqvAll (l.map pd) (m.map pd)
theorem eqB_comm (a b : Dv) : eqB a b = eqB b a := PySem.W.eqv_comm _ _
theorem eqL_cons (a b : Dv) (l m : List Dv) : eqL (a :: l) (b :: m) = (eqB a b && eqL l m) := by
  unfold eqL eqB; simp only [List.map_cons, PyData.eqvAll]
theorem eqL_nil : eqL [] [] = true := by unfold eqL; simp [PyData.eqvAll]
theorem eqL_nc (b : Dv) (m : List Dv) : eqL [] (b :: m) = false := by unfold eqL; simp [PyData.eqvAll]
theorem eqL_cn (b : Dv) (m : List Dv) : eqL (b :: m) [] = false := by unfold eqL; simp [PyData.eqvAll]
theorem eqL_ne : ∀ {l m : List Dv}, l.length ≠ m.length → eqL l m = false
  | [], [], h => absurd rfl h
  | [], b :: m, _ => eqL_nc b m
  | b :: m, [], _ => eqL_cn b m
  | a :: l, b :: m, h => by rw [eqL_cons, eqL_ne (l := l) (m := m) (by simpa using h), Bool.and_false]
theorem eqB_refl {n : Nat} {d : Dv} (h : Pl n d) (hn : n ≤ 60) : eqB d d = true :=
  have ⟨_, b, c⟩ := h.rp
  PySem.SeqAt.eqv_refl _ (SeqAt.canLay_of_shaped (shaped_of b (Nat.le_trans c (by omega))))
theorem rps_pd {n : Nat} : ∀ {l : List Dv}, (∀ x ∈ l, Pl n x) → Rps l (l.map pd) ∧ PyData.canLayAll0 (l.map pd) = true ∧ PyData.depthAll (l.map pd) ≤ n
  | [], _ => ⟨rps_nil, rfl, Nat.zero_le _⟩
  | d :: l, h => by
    obtain ⟨a1, a2, a3⟩ := (h d (List.mem_cons_self ..)).rp
    obtain ⟨b1, b2, b3⟩ := rps_pd (l := l) fun x hx => h x (List.mem_cons_of_mem _ hx)
    exact ⟨rps_cons a1 b1, by rw [List.map_cons, cl_cons, a2, b2]; rfl, by rw [List.map_cons, da_cons]; exact Nat.max_le.mpr ⟨a3, b3⟩⟩
theorem pd_tup {n : Nat} {l : List Dv} (h : ∀ x ∈ l, Pl n x) : pd (.tup l) = .tuple (l.map pd) := by
  unfold pd; rw [toP_some (rp_tup (rps_pd h).1)]; rfl
theorem eqB_tup {n : Nat} {l m : List Dv} (h : ∀ x ∈ l, Pl n x) (h' : ∀ x ∈ m, Pl n x) : eqB (.tup l) (.tup m) = eqL l m := by
  unfold eqB eqL; rw [pd_tup h, pd_tup h']; simp only [PyData.eqv]
theorem deep_pl {n : Nat} {a b : Dv} (ha : Pl n a) (hb : Pl n b) (hn : n ≤ 60) (S : Sto) : deepE S a b = some (eqB a b) := by
  obtain ⟨a1, a2, a3⟩ := ha.rp
  obtain ⟨b1, b2, b3⟩ := hb.rp
  unfold deepE eqB
  rw [show toP (res S a) = some (pd a) from a1 40 S, show toP (res S b) = some (pd b) from b1 40 S]
  simp only [Option.bind_some, shaped_of a2 (Nat.le_trans a3 (by omega)), shaped_of b2 (Nat.le_trans b3 (by omega)), Bool.and_self, if_true]
/-- None or a tuple -/
def Tn (d : Dv) : Prop := d = .non ∨ ∃ l, d = .tup l
theorem eq_tn {n : Nat} {a b : Dv} (ha : Pl n a) (hb : Pl n b) (hn : n ≤ 60) (ta : Tn a) (tb : Tn b) (S : Sto) : eqD S a b = some (eqB a b) := by
  rcases ta with rfl | ⟨l, rfl⟩
  · rcases tb with rfl | ⟨m, rfl⟩
    · rw [eqB_refl ha hn]; rfl
    · show (if lenNe (asL S .non) (asL S (.tup m)) then some false else deepE S .non (.tup m)) = _
      rw [show lenNe (asL S .non) (asL S (.tup m)) = false from rfl, if_neg Bool.false_ne_true]
      exact deep_pl ha hb hn S
  · rcases tb with rfl | ⟨m, rfl⟩
    · show (if lenNe (asL S (.tup l)) (asL S .non) then some false else deepE S (.tup l) .non) = _
      rw [show lenNe (asL S (.tup l)) (asL S .non) = false from rfl, if_neg Bool.false_ne_true]
      exact deep_pl ha hb hn S
    · show (if lenNe (asL S (.tup l)) (asL S (.tup m)) then some false else deepE S (.tup l) (.tup m)) = _
      rw [show lenNe (asL S (.tup l)) (asL S (.tup m)) = false from rfl, if_neg Bool.false_ne_true]
      exact deep_pl ha hb hn S
/-- handles of lists -/
theorem eq_hh {n : Nat} {S : Sto} {k : Nat} {l m : List Dv} (hk : S[k]? = some (.lst m)) (ha : ∀ x ∈ l, Pl n x) (hb : ∀ x ∈ m, Pl n x) (hn : n ≤ 59) : eqD S (.lst l) (.hdl k) = some (eqL l m) := by
  obtain ⟨a1, a2, a3⟩ := rps_pd ha
  obtain ⟨b1, b2, b3⟩ := rps_pd hb
  have e2 : asL S (.hdl k) = some m := by simp [asL, hk]
  show (if lenNe (some l) (asL S (.hdl k)) then some false else deepE S (.lst l) (.hdl k)) = _
  rw [e2]
  by_cases hl : l.length = m.length
  · rw [show lenNe (some l) (some m) = false by simp [lenNe, hl], if_neg Bool.false_ne_true]
    unfold deepE
    have r : ∀ {k : Nat} {l : List Dv}, S[k]? = some (.lst l) → Rps l (l.map pd) → toP (res S (.hdl k)) = some (.list (l.map pd)) := fun {k l} h r => by
      have : res S (.hdl k) = .lst (l.map (deref 39 S)) := by simp only [res, deref, h]
      rw [this]
      show (toPs (l.map (deref 39 S))).map PyData.list = _
      rw [r 39 S]; rfl
    rw [show toP (res S (.lst l)) = some (.list (l.map pd)) from rp_lst a1 40 S, r hk b1]
    have s : ∀ {l : List PyData}, PyData.canLayAll0 l = true → PyData.depthAll l ≤ n → SeqAt.shaped (.list l) = true := fun h1 h2 => shaped_of (by simpa [PyData.canLay0] using h1) (by simp [PyData.depth]; omega)
    simp only [Option.bind_some, s a2 a3, s b2 b3, Bool.and_self, if_true]
    unfold eqL
    simp only [PyData.eqv]
  · rw [show lenNe (some l) (some m) = true by simp [lenNe, hl], if_pos rfl, eqL_ne hl]
end DL
namespace DL
open PySem L2
theorem rngD_s (i : Nat) (n : Nat) : rngD (i : Int) (n + 1) = .int (i : Int) :: rngD ((i + 1 : Nat) : Int) n := by
  unfold rngD
  rw [List.range_succ_eq_map, List.map_cons, List.map_map]
  have : ∀ (l : List Nat), l.map (((fun (j : Nat) => Dv.int ((i : Int) + (j : Int)))) ∘ Nat.succ) = l.map fun (j : Nat) => Dv.int (((i + 1 : Nat) : Int) + (j : Int)) := fun l => by
    apply List.map_congr_left
    intro a _
    show Dv.int _ = Dv.int _
    congr 1
    simp only [Nat.succ_eq_add_one]
    omega
  rw [this]
  simp
mutual
def loD : Dv → Dv
  | .tup l => .lst (loDs l)
  | .lst l => .lst (loDs l)
  | d => d
def loDs : List Dv → List Dv
  | [] => []
  | d :: l => loD d :: loDs l
end
theorem loDs_map : ∀ l, loDs l = l.map loD
  | [] => rfl
  | d :: l => by show loD d :: loDs l = _; rw [loDs_map l]; rfl
theorem loDs_len (l : List Dv) : (loDs l).length = l.length := by rw [loDs_map, List.length_map]
/-- what is no list -/
def lfD (d : Dv) : Prop := DL.noH d = true ∧ ∀ S, isiD S [d, .ty "list"] = some (.bl false, S)
mutual
inductive Hd (base : Nat) (S : Sto) : Nat → Nat → Dv → Dv → Prop
  | leaf {n u : Nat} {d : Dv} : lfD d → Hd base S n u d d
  | hdl {n u k : Nat} {l xs : List Dv} : base ≤ k → k < u → S[k]? = some (.lst l) → l.length ≤ 10000000 → Hds base S n k l xs → Hd base S (n + 1) u (.hdl k) (.lst xs)
inductive Hds (base : Nat) (S : Sto) : Nat → Nat → List Dv → List Dv → Prop
  | nil {n u : Nat} : Hds base S n u [] []
  | cons {n u : Nat} {d x : Dv} {l xs : List Dv} : Hd base S n u d x → Hds base S n u l xs → Hds base S n u (d :: l) (x :: xs)
end
mutual
theorem Hd.mono {base : Nat} {S S' : Sto} (hS : ∀ (k : Nat) (o : Ob), S[k]? = some o → S'[k]? = some o) : ∀ {n u u' : Nat} {d x : Dv}, Hd base S n u d x → u ≤ u' → Hd base S' n u' d x
  | _, _, _, _, _, .leaf h, _ => .leaf h
  | _, _, _, _, _, .hdl h1 h2 h3 h4 h5, hu => .hdl h1 (by omega) (hS _ _ h3) h4 (Hds.mono hS h5 (Nat.le_refl _))
theorem Hds.mono {base : Nat} {S S' : Sto} (hS : ∀ (k : Nat) (o : Ob), S[k]? = some o → S'[k]? = some o) : ∀ {n u u' : Nat} {l xs : List Dv}, Hds base S n u l xs → u ≤ u' → Hds base S' n u' l xs
  | _, _, _, _, _, .nil, _ => .nil
  | _, _, _, _, _, .cons h t, hu => .cons (Hd.mono hS h hu) (Hds.mono hS t hu)
end
theorem app_get {S T : Sto} : ∀ (k : Nat) (o : Ob), S[k]? = some o → (S ++ T)[k]? = some o := fun k o h => by
  rw [List.getElem?_append_left (List.getElem?_eq_some_iff.mp h).1]; exact h
mutual
theorem Hd.thaw {base : Nat} {S : Sto} : ∀ {n u : Nat} {d x : Dv}, Hd base S n u d x → ∀ m, n < m → thaw m S d = some x
  | n, _, d, _, .leaf h, m, hm => by
    obtain ⟨m, rfl⟩ : ∃ k, m = k + 1 := ⟨m - 1, by omega⟩
    unfold DL.thaw
    rw [if_pos h.1]
  | n + 1, _, _, _, .hdl (k := k) (l := l) (xs := xs) h1 h2 h3 h4 h5, m, hm => by
    obtain ⟨m, rfl⟩ : ∃ k, m = k + 1 := ⟨m - 1, by omega⟩
    have e := h5.thaw m (by omega)
    have eq : sqO S k = some l := by simp [sqO, h3]
    unfold DL.thaw
    rw [if_neg (by exact Bool.false_ne_true)]
    simp only [eq, Option.bind_some, e, Option.map_some]
theorem Hds.thaw {base : Nat} {S : Sto} : ∀ {n u : Nat} {l xs : List Dv}, Hds base S n u l xs → ∀ m, n < m → l.mapM (DL.thaw m S) = some xs
  | _, _, _, _, .nil, m, _ => rfl
  | _, _, _, _, .cons h t, m, hm => by
    rw [List.mapM_cons, h.thaw m hm, t.thaw m hm]
    rfl
end
theorem Lf.isi {d : Dv} (h : Lf d) : (∀ S, isiD S [d, .ty "list"] = some (.bl false, S)) ∧ (∀ S, isiD S [d, .tup [.ty "tuple", .ty "list"]] = some (.bl false, S)) ∧ loD d = d := by
  rcases h with rfl | ⟨i, rfl⟩ | ⟨x, rfl, h⟩
  · exact ⟨fun S => by simp, fun S => by simp, rfl⟩
  · exact ⟨fun S => by simp, fun S => by simp, rfl⟩
  · exact ⟨fun S => by simp, fun S => by simp, rfl⟩
def LiP (base F n : Nat) (d : Dv) : Prop := ∀ S : Sto, base ≤ S.length → ∃ d' T, calls F .l_lists S [d] = .ok d' (S ++ T) ∧ Hd base (S ++ T) n (S ++ T).length d' (loD d)
theorem li_lc {base F n : Nat} (s0 : Sl) : ∀ (l : List Dv), (∀ d ∈ l, LiP base F n d) → ∀ S : Sto, base ≤ S.length → ∃ ds T, lcR (gN 1) tTrue (eCall (calls F .l_lists) (aCons (eVar 1) aNil)) [s0, .no] l S = .ok ds (S ++ T) ∧ Hds base (S ++ T) n (S ++ T).length ds (loDs l)
  | [], _, S, _ => ⟨[], [], by rw [List.append_nil]; rfl, .nil⟩
  | d :: l, h, S, hb => by
    obtain ⟨d', T, e1, h1⟩ := h d (List.mem_cons_self ..) S hb
    obtain ⟨ds, T2, e2, h2⟩ := li_lc s0 l (fun x hx => h x (List.mem_cons_of_mem _ hx)) (S ++ T) (by rw [List.length_append]; omega)
    refine ⟨d' :: ds, T ++ T2, ?_, ?_⟩
    · rw [← List.append_assoc]
      refine lcR_t (e1 := [s0, .va d]) (S1 := S) (S2 := S ++ T) rfl rfl ?_ e2
      clear e2 h1 h2
      generalize S ++ T = S1 at *
      simp -implicitDefEqProofs [e1]
    · rw [← List.append_assoc]
      exact .cons (h1.mono app_get (by rw [List.length_append (as := S ++ T)]; omega)) h2
theorem hds_len {base : Nat} {S : Sto} : ∀ {n u : Nat} {a b : List Dv}, Hds base S n u a b → a.length = b.length := by
  intro n u a
  induction a with
  | nil => intro b h; cases h; rfl
  | cons x a iha => intro b h; cases h with
    | cons _ t => rw [List.length_cons, List.length_cons, iha t]
theorem li_leaf (base n : Nat) (d : Dv) (F : Nat) (hF : 1 ≤ F) (h : Lf d) : LiP base F n d := fun S hb => by
  obtain ⟨G, rfl⟩ : ∃ G, F = G + 1 := ⟨F - 1, by omega⟩
  obtain ⟨i1, i2, i3⟩ := h.isi
  have i2 := i2 S
  refine ⟨d, [], ?_, ?_⟩
  · rw [List.append_nil]
    simp -implicitDefEqProofs [ev_l_lists, fb_l_lists, i2]
  · rw [i3]; exact .leaf ⟨h.noH, i1⟩
/-- a list or a tuple of things -/
theorem li_seq {base n G : Nat} {d : Dv} {l : List Dv} {S : Sto} (hl : l.length ≤ 1000) (i2 : isiD S [d, .tup [.ty "tuple", .ty "list"]] = some (.bl true, S)) (hs : seqR d S = .ok l S) (ih : ∀ x ∈ l, LiP base G n x) (hb : base ≤ S.length) :
    ∃ k T, calls (G + 1) .l_lists S [d] = .ok (.hdl k) (S ++ T) ∧ Hd base (S ++ T) (n + 1) (S ++ T).length (.hdl k) (.lst (loDs l)) := by
  obtain ⟨ds, T, e1, h4⟩ := li_lc (base := base) (F := G) (n := n) (.va d) l ih S hb
  have hlen : ds.length = l.length := by rw [hds_len h4, loDs_len]
  have hk := kLcEnd' (S := S ++ T) (l := ds) (by omega)
  refine ⟨(S ++ T).length, T ++ [.lst ds], ?_, ?_⟩
  · rw [← List.append_assoc]
    clear h4
    generalize S ++ T = S1 at *
    simp -implicitDefEqProofs [ev_l_lists, fb_l_lists, i2, hs, e1, hk]
  · rw [← List.append_assoc]
    exact .hdl (by rw [List.length_append]; omega) (by rw [List.length_append (bs := [_])]; simp) (by simp) (by omega) (h4.mono app_get (Nat.le_refl _))
theorem li_d (base : Nat) : ∀ (n : Nat) (d : Dv) (F : Nat), PT n d → n + 1 ≤ F → LiP base F n d
  | 0, d, F, h, hF => li_leaf base 0 d F (by omega) h
  | n + 1, d, F, h, hF => by
    rcases h with h | ⟨l, rfl, h2, h3⟩
    · exact li_leaf base _ d F (by omega) h
    · intro S hb
      obtain ⟨G, rfl⟩ : ∃ G, F = G + 1 := ⟨F - 1, by omega⟩
      obtain ⟨k, T, e, h⟩ := li_seq (base := base) (n := n) (G := G) (d := .tup l) h2 (by simp) rfl (fun x hx => li_d base n x G (h3 x hx) (by omega)) hb
      exact ⟨.hdl k, T, e, h⟩
def Em (base : Nat) (S : Sto) : Nat → Nat → Dv → Prop
  | 0, _, d => lfD d
  | n + 1, u, d => lfD d ∨ ∃ k l, d = .hdl k ∧ base ≤ k ∧ k < u ∧ S[k]? = some (.lst l) ∧ l.length ≤ 10000000 ∧ ∀ x ∈ l, Em base S n k x
theorem Em.leaf {base : Nat} {S : Sto} {d : Dv} (h : lfD d) (n u : Nat) : Em base S n u d := by
  cases n with
  | zero => exact h
  | succ n => exact .inl h
theorem Em.up {base : Nat} {S : Sto} : ∀ {n u u' : Nat} {d : Dv}, Em base S n u d → u ≤ u' → Em base S n u' d
  | 0, _, _, _, h, _ => h
  | n + 1, u, u', d, h, hu => by
    rcases h with h | ⟨k, l, h1, h2, h3, h4⟩
    · exact .inl h
    · exact .inr ⟨k, l, h1, h2, by omega, h4⟩
mutual
theorem Hd.em {base : Nat} {S : Sto} : ∀ {n u : Nat} {d x : Dv}, Hd base S n u d x → Em base S n u d
  | _, _, _, _, .leaf h => .leaf h _ _
  | _, _, _, _, .hdl h1 h2 h3 h4 h5 => .inr ⟨_, _, rfl, h1, h2, h3, h4, Hds.em h5⟩
theorem Hds.em {base : Nat} {S : Sto} : ∀ {n u : Nat} {l xs : List Dv}, Hds base S n u l xs → ∀ x ∈ l, Em base S n u x
  | _, _, _, _, .nil, _, hx => nomatch hx
  | _, _, _, _, .cons (d := d) (l := l) h t, x, hx => by
    rcases List.mem_cons.mp hx with e | hx
    · rw [e]; exact h.em
    · exact t.em x hx
end
structure Chg (base u : Nat) (S S' : Sto) : Prop where
  len : S'.length = S.length
  out : ∀ j, j < base ∨ u ≤ j → S'[j]? = S[j]?
  inn : ∀ j, base ≤ j → S'[j]? = S[j]? ∨ S'[j]? = some (.lst [.str "zz"])
theorem Chg.refl (base u : Nat) (S : Sto) : Chg base u S S := ⟨rfl, fun _ _ => rfl, fun _ _ => .inl rfl⟩
theorem Chg.trans {base u : Nat} {S S1 S2 : Sto} (a : Chg base u S S1) (b : Chg base u S1 S2) : Chg base u S S2 := ⟨b.len.trans a.len, fun j h => (b.out j h).trans (a.out j h), fun j h => by
  rcases b.inn j h with e | e
  · rw [e]; exact a.inn j h
  · exact .inr e⟩
theorem Chg.up {base u u' : Nat} {S S1 : Sto} (a : Chg base u S S1) (h : u ≤ u') : Chg base u' S S1 := ⟨a.len, fun j hj => a.out j (by omega), a.inn⟩
theorem lf_zz : lfD (.str "zz") := ⟨rfl, fun S => by simp⟩
theorem Em.chg {base v : Nat} {S S' : Sto} (c : Chg base v S S') : ∀ {n u : Nat} {d : Dv}, Em base S n u d → Em base S' n u d
  | 0, _, _, h => h
  | n + 1, u, d, h => by
    rcases h with h | ⟨k, l, h1, h2, h3, h4, h5, h6⟩
    · exact .inl h
    · rcases c.inn k h2 with e | e
      · exact .inr ⟨k, l, h1, h2, h3, e.trans h4, h5, fun x hx => (h6 x hx).chg c⟩
      · exact .inr ⟨k, _, h1, h2, h3, e, by simp, fun x hx => by rw [List.mem_singleton.mp hx]; exact .leaf lf_zz _ _⟩
theorem pop_loop (c : Fn → DF) (k : Nat) (s1 : Sl) : ∀ (m i : Nat) (l : List Dv) (S : Sto) (s2 : Sl), l.length = m → S[k]? = some (.lst l) →
    ∃ z, forR (gN 2) (fb_l_emptied_l1 c) (rngD (i : Int) m) [.va (.hdl k), s1, s2] S = .nx [.va (.hdl k), s1, z] (S.set k (.lst []))
  | 0, i, l, S, s2, hl, hk => by
    rw [List.length_eq_zero_iff.mp hl] at hk
    refine ⟨s2, ?_⟩
    obtain ⟨h1, h2⟩ := List.getElem?_eq_some_iff.mp hk
    have : S.set k (.lst []) = S := by rw [← h2, List.set_getElem_self]
    rw [this]; rfl
  | m + 1, i, l, S, s2, hl, hk => by
    obtain ⟨d, hd⟩ : ∃ d, l.getLast? = some d := by
      cases h : l.getLast? with
      | none => rw [List.getLast?_eq_none_iff] at h; rw [h] at hl; simp at hl
      | some d => exact ⟨d, rfl⟩
    have hlt := (List.getElem?_eq_some_iff.mp hk).1
    have e1 : hdlM popM S (.hdl k) [] = .ok d (S.set k (.lst l.dropLast)) := by
      simp only [hdlM, hk, popM, hd]
    obtain ⟨z, hz⟩ := pop_loop c k s1 m (i + 1) l.dropLast (S.set k (.lst l.dropLast)) (.va (.int (i : Int))) (by rw [List.length_dropLast]; omega) (by rw [List.getElem?_set, if_pos rfl, if_pos hlt])
    refine ⟨z, ?_⟩
    rw [rngD_s, forR_nx (e2 := [.va (.hdl k), s1, .va (.int (i : Int))]) (S1 := S.set k (.lst l.dropLast)) rfl ?_, hz, List.set_set]
    generalize S.set k (.lst l.dropLast) = S2 at *
    simp -implicitDefEqProofs [fb_l_emptied_l1, hk, e1]
theorem em_loop {base F n k : Nat} (ih : ∀ (d : Dv) (S : Sto), Em base S n k d → ∃ S', calls F .l_emptied S [d] = .ok .non S' ∧ Chg base k S S') (s0 s2 : Sl) : ∀ (l : List Dv) (S : Sto) (s1 : Sl), (∀ x ∈ l, Em base S n k x) →
    ∃ z S', forR (gN 1) (fb_l_emptied_l0 (calls F)) l [s0, s1, s2] S = .nx [s0, z, s2] S' ∧ Chg base k S S'
  | [], S, s1, _ => ⟨s1, S, rfl, .refl ..⟩
  | d :: l, S, s1, h => by
    obtain ⟨S1, e1, c1⟩ := ih d S (h d (List.mem_cons_self ..))
    obtain ⟨z, S2, e2, c2⟩ := em_loop ih s0 s2 l S1 (.va d) fun x hx => (h x (List.mem_cons_of_mem _ hx)).chg c1
    refine ⟨z, S2, ?_, c1.trans c2⟩
    rw [forR_nx (e2 := [s0, .va d, s2]) (S1 := S1) rfl ?_, e2]
    simp -implicitDefEqProofs [fb_l_emptied_l0, e1]
theorem emptied_ok (base : Nat) : ∀ (n F u : Nat) (d : Dv) (S : Sto), n + 1 ≤ F → Em base S n u d → ∃ S', calls F .l_emptied S [d] = .ok .non S' ∧ Chg base u S S' := fun n => by
  have leafc : ∀ (F u : Nat) (d : Dv) (S : Sto), 1 ≤ F → lfD d → ∃ S', calls F .l_emptied S [d] = .ok .non S' ∧ Chg base u S S' := fun F u d S hF h => by
    obtain ⟨G, rfl⟩ : ∃ G, F = G + 1 := ⟨F - 1, by omega⟩
    have i1 := h.2 S
    exact ⟨S, by simp -implicitDefEqProofs [ev_l_emptied, fb_l_emptied, i1], .refl ..⟩
  induction n with
  | zero => exact fun F u d S hF h => leafc F u d S (by omega) h
  | succ n ih =>
    intro F u d S hF h
    rcases h with h | ⟨k, l, rfl, h2, h3, h4, h5, h6⟩
    · exact leafc F u d S (by omega) h
    · obtain ⟨G, rfl⟩ : ∃ G, F = G + 1 := ⟨F - 1, by omega⟩
      obtain ⟨z, S1, e1, c1⟩ := em_loop (base := base) (F := G) (n := n) (k := k) (fun d S h => ih G k d S (by omega) h) (.va (.hdl k)) .no l S .no h6
      have g1 : S1[k]? = some (.lst l) := (c1.out k (.inr (Nat.le_refl _))).trans h4
      obtain ⟨y, e2⟩ := pop_loop (calls G) k z l.length 0 l S1 .no rfl g1
      have hlt := (List.getElem?_eq_some_iff.mp g1).1
      have g2 : (S1.set k (.lst []))[k]? = some (.lst []) := by rw [List.getElem?_set, if_pos rfl, if_pos hlt]
      have e3 : hdlM appD (S1.set k (.lst [])) (.hdl k) [.str "zz"] = .ok .non (S1.set k (.lst [.str "zz"])) := by
        rw [hdlM_app (h1 := g2) (h2 := by rw [sizeLine_eq]; simp), List.set_set]; rfl
      have i1 := isi_hdl_list (S := S) (h := h4)
      have hls : listD S [.hdl k] = some (.lst l, S) := by simp [listD, asQ, asT, asL, h4]
      have ln := len_hdl g1
      have er := rngR1_ok S1 (l.length : Int) (by omega)
      rw [Int.toNat_natCast] at er
      rw [show (((0 : Nat) : Nat) : Int) = 0 from rfl] at e2
      refine ⟨S1.set k (.lst [.str "zz"]), ?_, ⟨by rw [List.length_set]; exact c1.len, fun j hj => ?_, fun j hj => ?_⟩⟩
      · clear c1 g1 h4 h6 hlt ih leafc
        generalize S1.set k (.lst [.str "zz"]) = S3 at *
        generalize S1.set k (.lst []) = S2 at *
        generalize rngD 0 l.length = rg at *
        generalize (l.length : Int) = n at *
        simp -implicitDefEqProofs [ev_l_emptied, fb_l_emptied, i1, hls, e1, ln, er, e2, g2, e3]
      · have hjk : k ≠ j := by omega
        rw [List.getElem?_set, if_neg hjk]
        exact c1.out j (by omega)
      · by_cases hjk : k = j
        · subst hjk
          right
          rw [List.getElem?_set, if_pos rfl, if_pos hlt]
        · rw [List.getElem?_set, if_neg hjk]
          exact c1.inn j hj
def AtR (f : Nat) (S : Sto) (x y : Dv) : Prop := calls f .as_tuples S [x] = .ok y S
theorem at_lc {f : Nat} {S : Sto} {d : Dv} (g : Dv → Dv) : ∀ {l : List Dv}, (∀ x ∈ l, AtR f S (g x) x) → lcR (gN 1) tTrue (eCall (calls f .as_tuples) (aCons (eVar 1) aNil)) [.va d, .no] (l.map g) S = .ok l S
  | [], _ => rfl
  | x :: l, h => lcR_t (S1 := S) (S2 := S) rfl rfl (by have := h x (List.mem_cons_self ..); unfold AtR at this; simp [this]) (at_lc g fun y hy => h y (List.mem_cons_of_mem _ hy))
theorem at_leaf {f : Nat} {S : Sto} {d : Dv} (h : Lf d) : AtR (f + 1) S d d := by
  have i2 := h.isi.2.1 S
  simp -implicitDefEqProofs [AtR, ev_as_tuples, fb_as_tuples, i2]
theorem at_tup {f : Nat} {S : Sto} {l : List Dv} (hl : l.length ≤ 1000) (h : ∀ x ∈ l, AtR f S x x) : AtR (f + 1) S (.tup l) (.tup l) := by
  have e := fun d => at_lc (d := d) id h
  rw [List.map_id] at e
  have ek := kLcEnd' (S := S) (l := l) (by omega)
  unfold AtR
  simp -implicitDefEqProofs [ev_as_tuples, fb_as_tuples, e, ek]
theorem at_lst {f : Nat} {S : Sto} {l : List Dv} (hl : l.length ≤ 1000) (h : ∀ x ∈ l, AtR f S (loD x) x) : AtR (f + 1) S (.lst (loDs l)) (.tup l) := by
  have e := fun d => at_lc (d := d) loD h
  rw [← loDs_map] at e
  have ek := kLcEnd' (S := S) (l := l) (by omega)
  unfold AtR
  simp -implicitDefEqProofs [ev_as_tuples, fb_as_tuples, e, ek]
theorem at_pt : ∀ (n : Nat) (d : Dv) (F : Nat) (S : Sto), PT n d → n + 1 ≤ F → AtR F S d d ∧ AtR F S (loD d) d
  | 0, d, F, S, h, hF => by
    obtain ⟨G, rfl⟩ : ∃ G, F = G + 1 := ⟨F - 1, by omega⟩
    rw [Lf.isi h |>.2.2]
    exact ⟨at_leaf h, at_leaf h⟩
  | n + 1, d, F, S, h, hF => by
    obtain ⟨G, rfl⟩ : ∃ G, F = G + 1 := ⟨F - 1, by omega⟩
    rcases h with h | ⟨l, rfl, h2, h3⟩
    · rw [h.isi.2.2]; exact ⟨at_leaf h, at_leaf h⟩
    · exact ⟨at_tup h2 fun x hx => (at_pt n x G S (h3 x hx) (by omega)).1, at_lst h2 fun x hx => (at_pt n x G S (h3 x hx) (by omega)).2⟩
end DL
namespace DL
open PySem L2
theorem fldH_ok {c f : Str} {fo fv : DE} {e : Env} {S S1 S2 S3 : Sto} {v o : Dv} (h1 : fv e S = .ok v S1) (h2 : fo e S1 = .ok o S2) (h3 : setF c f S2 o v = some S3) : sFldH c f fo fv e S = .nx e S3 := by
  unfold sFldH sBind
  simp only [h1, h2, h3]
def rcD (l s : List Dv) (e : Dv) : Dv := .obj "Record" [("told", .tup [.tup l, .tup s, e])]
theorem kf_rc (l s : List Dv) (e : Dv) (S : Sto) : kFld "Record" "told" (rcD l s e) S = .ok (.tup [.tup l, .tup s, e]) S := by
  unfold rcD; kernel_rfl
theorem rmk_ok {F : Nat} {x1 x2 x3 e : Dv} {l s : List Dv} (n1 : noH x1 = true) (n2 : noH x2 = true) (n3 : noH x3 = true) (nl : noHs l = true) (ns : noHs s = true) (ne : noH e = true)
    (h1 : ∀ S, AtR F S x1 (.tup l)) (h2 : ∀ S, AtR F S x2 (.tup s)) (h3 : ∀ S, AtR F S x3 e) (S : Sto) : kMk "Record" (calls (F + 1) .Record_init) [x1, x2, x3] S = .ok (rcD l s e) S := by
  have h1 : ∀ S, calls F .as_tuples S [x1] = .ok (.tup l) S := h1
  have h2 : ∀ S, calls F .as_tuples S [x2] = .ok (.tup s) S := h2
  have h3 : ∀ S, calls F .as_tuples S [x3] = .ok e S := h3
  have e4 : calls (F + 1) .Record_init [.ins "Record" []] [.hdl 0, x1, x2, x3] = .ok .non [.ins "Record" [("told", .tup [.tup l, .tup s, e])]] := by
    rw [ev_Record_init, fb_Record_init, fldH_ok (v := .tup [.tup l, .tup s, e]) (o := .hdl 0) (S1 := [.ins "Record" []]) (S2 := [.ins "Record" []]) (S3 := [.ins "Record" [("told", .tup [.tup l, .tup s, e])]]) (by simp [h1, h2, h3]) rfl (by kernel_rfl)]
    rfl
  unfold kMk rcD
  rw [if_pos (by simp [noHs, n1, n2, n3]), e4]
  unfold kMkE
  simp only
  rw [if_pos ⟨trivial, by simp [noHf, noH, noHs, nl, ns, ne]⟩]
theorem rmkL_ok {F : Nat} {p1 p2 p3 x1 x2 x3 e : Dv} {l s : List Dv} {S : Sto} (ht : thaws S [p1, p2, p3] = some [x1, x2, x3]) (n1 : noH x1 = true) (n2 : noH x2 = true) (n3 : noH x3 = true) (nl : noHs l = true) (ns : noHs s = true) (ne : noH e = true)
    (pl : pureDs l = true) (ps : pureDs s = true) (pe : pureD e = true)
    (h1 : ∀ S, AtR F S x1 (.tup l)) (h2 : ∀ S, AtR F S x2 (.tup s)) (h3 : ∀ S, AtR F S x3 e) : kMkL "Record" (calls (F + 1) .Record_init) [p1, p2, p3] S = .ok (rcD l s e) S := by
  unfold kMkL kLendF
  rw [ht]
  simp only
  rw [rmk_ok n1 n2 n3 nl ns ne h1 h2 h3 []]
  unfold kLend
  simp only
  rw [if_pos]
  show pureDf [("told", .tup [.tup l, .tup s, e])] = true
  simp [pureDf, pureD, pureDs, pl, ps, pe]
theorem ent_ok (f : Nat) (l s : List Dv) (e : Dv) (S : Sto) : calls (f + 1) .Record_entries S [rcD l s e] = .ok (.tup l) S := by
  have h := kf_rc l s e S
  generalize rcD l s e = r at *
  simp -implicitDefEqProofs [ev_Record_entries, fb_Record_entries, h]
theorem sit_ok (f : Nat) (l s : List Dv) (e : Dv) (S : Sto) : calls (f + 1) .Record_sites S [rcD l s e] = .ok (.tup s) S := by
  have h := kf_rc l s e S
  generalize rcD l s e = r at *
  simp -implicitDefEqProofs [ev_Record_sites, fb_Record_sites, h]
theorem end_ok (f : Nat) (l s : List Dv) (e : Dv) (S : Sto) : calls (f + 1) .Record_end S [rcD l s e] = .ok e S := by
  have h := kf_rc l s e S
  generalize rcD l s e = r at *
  simp -implicitDefEqProofs [ev_Record_end, fb_Record_end, h]
theorem len_ok (f : Nat) (l s : List Dv) (e : Dv) (S : Sto) (hl : l.length ≤ 1000) : kLenC "Record" (calls (f + 1) .Record_len) (rcD l s e) S = .ok (.int (l.length : Int)) S := by
  have h : calls (f + 1) .Record_len S [rcD l s e] = .ok (.int (l.length : Int)) S := by
    have h := kf_rc l s e S
    generalize rcD l s e = r at *
    simp -implicitDefEqProofs [ev_Record_len, fb_Record_len, h]
  unfold rcD at *
  rw [kLenC_obj, h]
  generalize hn : (l.length : Int) = n
  simp only [lenR]
  rw [if_pos (by omega)]
theorem m_ent {g : DF} {fa : DA} {env : Env} (l s : List Dv) (e : Dv) (S : Sto) : kMeth "Record" "entries" [] g fa env (rcD l s e) S = bnd (fa env S) (kMe2 [] g (rcD l s e)) := by
  unfold rcD
  exact kMeth_obj _ _ _ _ _ _ _ _ rfl
theorem m_sit {g : DF} {fa : DA} {env : Env} (l s : List Dv) (e : Dv) (S : Sto) : kMeth "Record" "sites" [] g fa env (rcD l s e) S = bnd (fa env S) (kMe2 [] g (rcD l s e)) := by
  unfold rcD
  exact kMeth_obj _ _ _ _ _ _ _ _ rfl
theorem m_end {g : DF} {fa : DA} {env : Env} (l s : List Dv) (e : Dv) (S : Sto) : kMeth "Record" "end" [] g fa env (rcD l s e) S = bnd (fa env S) (kMe2 [] g (rcD l s e)) := by
  unfold rcD
  exact kMeth_obj _ _ _ _ _ _ _ _ rfl
theorem m_left {g : DF} {fa : DA} {env : Env} (l s : List Dv) (e : Dv) (S : Sto) : kMeth "Record" "left" [] g fa env (rcD l s e) S = bnd (fa env S) (kMe2 [] g (rcD l s e)) := by
  unfold rcD
  exact kMeth_obj _ _ _ _ _ _ _ _ rfl
theorem req_ok (f : Nat) {l s l' s' : List Dv} {e e' : Dv} {b1 b2 : Bool} (S : Sto) (h1 : eqD S (.tup l) (.tup l') = some b1) (h2 : eqD S e e' = some b2) : kEqO false "Record" (calls (f + 2) .Record_eq) (rcD l s e) (rcD l' s' e') S = .ok (.bl (b1 && b2)) S := by
  have : kEqO false "Record" (calls (f + 2) .Record_eq) (rcD l s e) (rcD l' s' e') S = blR false (calls (f + 2) .Record_eq S [rcD l s e, rcD l' s' e']) := rfl
  rw [this]
  have i1 : isoD "Record" su_Record S [rcD l' s' e', .glo "Record"] = some (.bl true, S) := rfl
  have k1 := kf_rc l s e S
  have m1 := fun g fa env => m_ent (g := g) (fa := fa) (env := env) l' s' e' S
  have m2 := fun g fa env => m_end (g := g) (fa := fa) (env := env) l' s' e' S
  have q1 := ent_ok f l' s' e' S
  have q2 := end_ok f l' s' e' S
  have : calls (f + 2) .Record_eq S [rcD l s e, rcD l' s' e'] = .ok (.bl (b1 && b2)) S := by
    generalize rcD l s e = r at *
    generalize rcD l' s' e' = r' at *
    cases b1 <;> simp -implicitDefEqProofs [ev_Record_eq, fb_Record_eq, i1, k1, m1, m2, q1, q2, h1, h2]
  rw [this]; rfl
theorem req_tn (f : Nat) {l s : List Dv} {e x : Dv} (S : Sto) (h : Tn x) : kEqO false "Record" (calls (f + 1) .Record_eq) (rcD l s e) x S = .ok (.bl false) S := by
  have : kEqO false "Record" (calls (f + 1) .Record_eq) (rcD l s e) x S = blR false (calls (f + 1) .Record_eq S [rcD l s e, x]) := by
    rcases h with rfl | ⟨m, rfl⟩ <;> rfl
  rw [this]
  have i1 : isoD "Record" su_Record S [x, .glo "Record"] = some (.bl false, S) := by rcases h with rfl | ⟨m, rfl⟩ <;> rfl
  have : calls (f + 1) .Record_eq S [rcD l s e, x] = .ok (.bl false) S := by
    generalize rcD l s e = r at *
    simp -implicitDefEqProofs [ev_Record_eq, fb_Record_eq, i1]
  rw [this]; rfl
end DL
namespace DL
open PySem L2
def isN : Dv → Bool
  | .non => true
  | _ => false
theorem isN_e (d : Dv) (S : Sto) : pu2 (isD false) S d .non = some (.bl (isN d), S) := by cases d <;> rfl
theorem isnN_e (d : Dv) (S : Sto) : pu2 (isD true) S d .non = some (.bl (!isN d), S) := by cases d <;> rfl
def dif (i : Nat) : List Dv → List Dv → Option Nat
  | x :: l, y :: m => if eqB x y then dif (i + 1) l m else some i
  | _, _ => none
def tlD (i : Nat) (nl nm : Nat) (e f : Dv) : Dv := if nl < nm then (if isN e then .non else .int (i + nl : Nat)) else if nm < nl then (if isN f then .non else .int (i + nm : Nat)) else if isN e || (isN f || eqB e f) then .non else .int (i + nl : Nat)
def dueD (l m : List Dv) (e f : Dv) : Dv := match dif 0 l m with
  | some j => .int (j : Nat)
  | none => tlD 0 l.length m.length e f
theorem dif_comm : ∀ (i : Nat) (l m : List Dv), dif i l m = dif i m l
  | i, [], [] => rfl
  | i, [], _ :: _ => rfl
  | i, _ :: _, [] => rfl
  | i, x :: l, y :: m => by show (if eqB x y then _ else _) = if eqB y x then _ else _; rw [eqB_comm y x, dif_comm (i + 1) l m]
theorem tlD_comm (i nl nm : Nat) (e f : Dv) : tlD i nl nm e f = tlD i nm nl f e := by
  unfold tlD
  by_cases h1 : nl < nm
  · have h2 : ¬ nm < nl := by omega
    simp [h1, h2]
  · by_cases h2 : nm < nl
    · simp [h1, h2]
    · have : nl = nm := by omega
      subst this
      simp only [Nat.lt_irrefl, if_false, eqB_comm f e]
      cases isN e <;> cases isN f <;> cases eqB e f <;> rfl
theorem due_comm (l m : List Dv) (e f : Dv) : dueD l m e f = dueD m l f e := by
  unfold dueD
  rw [dif_comm, tlD_comm]
theorem dif_same {n : Nat} (hn : n ≤ 60) : ∀ (i : Nat) {l : List Dv}, (∀ x ∈ l, Pl n x) → dif i l l = none
  | i, [], _ => rfl
  | i, x :: l, h => by
    show (if eqB x x then _ else _) = _
    rw [eqB_refl (h x (List.mem_cons_self ..)) hn, if_pos rfl]
    exact dif_same hn (i + 1) fun y hy => h y (List.mem_cons_of_mem _ hy)
theorem due_same {n : Nat} (hn : n ≤ 60) {l : List Dv} {e : Dv} (h : ∀ x ∈ l, Pl n x) (he : Pl n e) : dueD l l e e = .non := by
  unfold dueD
  rw [dif_same hn 0 h]
  unfold tlD
  simp [eqB_refl he hn]
/-- an entry -/
structure EnD (d : Dv) : Prop where
  pt : PT 3 d
  shp : ∃ a b c n, d = .tup [a, b, c, n]
theorem EnD.tn {d : Dv} (h : EnD d) : Tn d := let ⟨_, _, _, _, e⟩ := h.shp; .inr ⟨_, e⟩
def ezF (i : Nat) (l m : List Dv) : List Dv := (l.zip m).mapIdx fun j q => .tup [.int (i + j : Nat), .tup [q.1, q.2]]
theorem ezF_cons (i : Nat) (x y : Dv) (l m : List Dv) : ezF i (x :: l) (y :: m) = .tup [.int (i : Nat), .tup [x, y]] :: ezF (i + 1) l m := by
  unfold ezF
  rw [List.zip_cons_cons, List.mapIdx_cons]
  congr 1
  congr 1
  funext j q
  rw [show i + (j + 1) = i + 1 + j by omega]
theorem ezF_nl (i : Nat) (m : List Dv) : ezF i [] m = [] := rfl
theorem ezF_nr (i : Nat) (l : List Dv) : ezF i l [] = [] := by cases l <;> rfl
theorem ez_eq (l m : List Dv) : ezD l m = ezF 0 l m := by
  unfold ezD ezF
  congr 1
  funext j q
  rw [Nat.zero_add]
theorem pa_loop (c : Fn → DF) (S : Sto) (s0 s1 s2 s3 : Sl) : ∀ (l m : List Dv) (i : Nat) (s4 s5 s6 : Sl), (∀ x ∈ l, EnD x) → (∀ x ∈ m, EnD x) →
    (∃ z4 z5 z6, forR (gT (gsCons (gN 4) (gsCons (gT (gsCons (gN 5) (gsCons (gN 6) gsNil))) gsNil))) (fb_parted_at_l0 c) (ezF i l m) [s0, s1, s2, s3, s4, s5, s6] S = match dif i l m with
      | some j => .rt (.int (j : Nat)) S
      | none => .nx [s0, s1, s2, s3, z4, z5, z6] S)
  | [], m, i, s4, s5, s6, _, _ => ⟨s4, s5, s6, by rw [ezF_nl]; rfl⟩
  | x :: l, [], i, s4, s5, s6, _, _ => ⟨s4, s5, s6, by rw [ezF_nr]; rfl⟩
  | x :: l, y :: m, i, s4, s5, s6, hl, hm => by
    have hx := hl x (List.mem_cons_self ..)
    have hy := hm y (List.mem_cons_self ..)
    have e := eq_tn hx.pt.pl hy.pt.pl (by omega) hx.tn hy.tn S
    obtain ⟨z4, z5, z6, h⟩ := pa_loop c S s0 s1 s2 s3 l m (i + 1) (.va (.int (i : Nat))) (.va x) (.va y) (fun z hz => hl z (List.mem_cons_of_mem _ hz)) fun z hz => hm z (List.mem_cons_of_mem _ hz)
    refine ⟨z4, z5, z6, ?_⟩
    rw [ezF_cons]
    show _ = match (if eqB x y then dif (i + 1) l m else some i) with
      | some j => Out.rt (.int (j : Nat)) S
      | none => Out.nx [s0, s1, s2, s3, z4, z5, z6] S
    cases hb : eqB x y with
    | true =>
      rw [if_pos rfl, ← h]
      refine forR_nx rfl ?_
      rw [hb] at e
      simp -implicitDefEqProofs [fb_parted_at_l0, e]
    | false =>
      rw [if_neg Bool.false_ne_true]
      refine forR_rt rfl ?_
      rw [hb] at e
      simp -implicitDefEqProofs [fb_parted_at_l0, e]
theorem parted_ok (f : Nat) {l s m t : List Dv} {e g : Dv} (S : Sto) (hl : ∀ x ∈ l, EnD x) (hm : ∀ x ∈ m, EnD x) (he : PT 4 e) (te : Tn e) (hg : PT 4 g) (tg : Tn g) (n1 : l.length ≤ 1000) (n2 : m.length ≤ 1000) : calls (f + 2) .parted_at S [rcD l s e, rcD m t g] = .ok (dueD l m e g) S := by
  have m1 := fun g' fa env => m_ent (g := g') (fa := fa) (env := env) l s e S
  have m2 := fun g' fa env => m_end (g := g') (fa := fa) (env := env) l s e S
  have m3 := fun g' fa env => m_ent (g := g') (fa := fa) (env := env) m t g S
  have m4 := fun g' fa env => m_end (g := g') (fa := fa) (env := env) m t g S
  have q1 := ent_ok f l s e S
  have q2 := end_ok f l s e S
  have q3 := ent_ok f m t g S
  have q4 := end_ok f m t g S
  have eg := eq_tn he.pl hg.pl (by omega) te tg S
  have i1 := isN_e e S
  have i2 := isN_e g S
  obtain ⟨z4, z5, z6, h⟩ := pa_loop (calls (f + 1)) S (.va (rcD l s e)) (.va (rcD m t g)) (.va (.tup l)) (.va (.tup m)) l m 0 .no .no .no hl hm
  rw [← ez_eq] at h
  unfold dueD
  generalize rcD l s e = r at *
  generalize rcD m t g = r' at *
  cases hd : dif 0 l m with
  | some j =>
    rw [hd] at h
    simp only at h
    simp -implicitDefEqProofs [-is_non, ev_parted_at, fb_parted_at, m1, m3, q1, q3, h]
  | none =>
    rw [hd] at h
    simp only at h
    unfold tlD
    by_cases h1 : l.length < m.length
    · have h1' : (l.length : Int) < (m.length : Int) := by omega
      cases he' : isN e <;> (rw [he'] at i1; simp -implicitDefEqProofs [-is_non, ev_parted_at, fb_parted_at, m1, m3, q1, q3, h, h1, h1', m2, q2, i1])
    · have h1' : ¬ (l.length : Int) < (m.length : Int) := by omega
      by_cases h2 : m.length < l.length
      · have h2' : (m.length : Int) < (l.length : Int) := by omega
        cases he' : isN g <;> (rw [he'] at i2; simp -implicitDefEqProofs [-is_non, ev_parted_at, fb_parted_at, m1, m3, q1, q3, h, h1, h1', h2, h2', m4, q4, i2])
      · have h2' : ¬ (m.length : Int) < (l.length : Int) := by omega
        cases a1 : isN e <;> cases a2 : isN g <;> cases a3 : eqB e g <;> (rw [a1] at i1; rw [a2] at i2; rw [a3] at eg; simp -implicitDefEqProofs [-is_non, ev_parted_at, fb_parted_at, m1, m3, q1, q3, h, h1, h1', h2, h2', m4, q4, m2, q2, i1, i2, eg])
end DL
namespace DL
open PySem L2
def xE (e : Dv) : Dv := if isN e then .non else .tup [.str "end", e]
theorem xE_N (e : Dv) : isN (xE e) = isN e := by
  unfold xE
  cases h : isN e <;> rfl
theorem xE_tn (e : Dv) : Tn (xE e) := by
  unfold xE
  cases h : isN e
  · exact .inr ⟨_, rfl⟩
  · exact .inl rfl
theorem PT.pu {n m : Nat} {d : Dv} (h : PT n d) (hm : n ≤ m) : Pl m d := (h.up hm).pl
theorem lf_end : Lf (.str "end") := .inr (.inr ⟨_, rfl, by decide +kernel⟩)
theorem xE_pl {e : Dv} (h : PT 4 e) : Pl 5 (xE e) := by
  unfold xE
  cases h1 : isN e
  · exact pl_tup fun d hd => by
      rcases List.mem_cons.mp hd with rfl | hd
      · exact lf_end.pl _
      · rw [List.mem_singleton.mp hd]; exact h.pl
  · exact pl_non _
theorem eqB_xx {e f : Dv} (he : PT 4 e) (hf : PT 4 f) (h1 : isN e = false) (h2 : isN f = false) : eqB (xE e) (xE f) = eqB e f := by
  unfold xE
  rw [h1, h2, if_neg Bool.false_ne_true, if_neg Bool.false_ne_true]
  have p : ∀ {e : Dv}, PT 4 e → ∀ x ∈ [Dv.str "end", e], Pl 4 x := fun h x hx => by
    rcases List.mem_cons.mp hx with rfl | hx
    · exact lf_end.pl _
    · rw [List.mem_singleton.mp hx]; exact h.pl
  rw [eqB_tup (p he) (p hf), eqL_cons, eqL_cons, eqL_nil, eqB_refl (lf_end.pl 4) (by omega), Bool.true_and, Bool.and_true]
theorem eqB_xd {e d : Dv} (he : PT 4 e) (h1 : isN e = false) (hd : EnD d) : eqB (xE e) d = false ∧ eqB d (xE e) = false := by
  have : eqB (xE e) d = false := by
    obtain ⟨a, b, c, n, rfl⟩ := hd.shp
    have hp := hd.pt
    unfold xE
    rw [h1, if_neg Bool.false_ne_true]
    have q : ∀ x ∈ [a, b, c, n], Pl 4 x := fun x hx => by
      rcases hp with h | ⟨l, e, _, h⟩
      · rcases h with h | ⟨_, h⟩ | ⟨_, h, _⟩ <;> cases h
      · cases e; exact PT.pu (n := 2) (m := 4) (h x hx) (by decide)
    have p : ∀ x ∈ [Dv.str "end", e], Pl 4 x := fun x hx => by
      rcases List.mem_cons.mp hx with rfl | hx
      · exact lf_end.pl _
      · rw [List.mem_singleton.mp hx]; exact he.pl
    rw [eqB_tup p q]
    exact eqL_ne (by simp)
  exact ⟨this, by rw [eqB_comm]; exact this⟩
theorem due_step (c : Fn → DF) (S : Sto) {E0 E1 : List Dv} {i : Nat} {d0 d1 : Dv} {b : Bool} {a0 a1 s3 s4 : Sl} (h0 : atI E0 (i : Int) = some d0) (h1 : atI E1 (i : Int) = some d1) (hq : eqD S d0 d1 = some b) :
    fb_l_due_l1 c [a0, a1, .ow [.lst E0, .lst E1], s3, s4, .va (.int (i : Nat))] S = if isN d0 || isN d1 then .rt .non S else if b then .nx [a0, a1, .ow [.lst E0, .lst E1], s3, s4, .va (.int (i : Nat))] S else .rt (.int (i : Nat)) S := by
  have i0 := isN_e d0 S
  have i1 := isN_e d1 S
  generalize ((i : Nat) : Int) = n at *
  cases a : isN d0 <;> cases a' : isN d1 <;> cases b <;> (rw [a] at i0; rw [a'] at i1; simp -implicitDefEqProofs [-is_non, fb_l_due_l1, h0, h1, hq, i0, i1])
theorem at_pre (P l : List Dv) (x : Dv) {i : Nat} (h : P.length = i) : atI (P ++ x :: l) (i : Int) = some x := by
  rw [atI_nat', List.getElem?_append_right (by omega)]
  simp [h]
def lwO (S : Sto) (i nl nm : Nat) (e f : Dv) (nx : Out) : Out := if nl < nm then (if isN e then .rt .non S else .rt (.int (i + nl : Nat)) S) else if nm < nl then (if isN f then .rt .non S else .rt (.int (i + nm : Nat)) S) else if isN e || isN f then .rt .non S else if eqB e f then nx else .rt (.int (i + nl : Nat)) S
theorem lw_sh (S : Sto) (i nl nm : Nat) (e f : Dv) (nx : Out) : lwO S i (nl + 1) (nm + 1) e f nx = lwO S (i + 1) nl nm e f nx := by
  unfold lwO
  have e1 : i + (nl + 1) = i + 1 + nl := by omega
  have e2 : i + (nm + 1) = i + 1 + nm := by omega
  simp only [Nat.add_lt_add_iff_right, e1, e2]
theorem due_loop (c : Fn → DF) (S : Sto) {e f : Dv} (he : PT 4 e) (hf : PT 4 f) (a0 a1 s3 s4 : Sl) : ∀ (l m P Q : List Dv) (i : Nat) (s5 : Sl), P.length = i → Q.length = i → (∀ x ∈ l, EnD x) → (∀ x ∈ m, EnD x) →
    ∃ z, forR (gN 5) (fb_l_due_l1 c) (rngD (i : Int) (min (l.length + 1) (m.length + 1))) [a0, a1, .ow [.lst (P ++ (l ++ [xE e])), .lst (Q ++ (m ++ [xE f]))], s3, s4, s5] S = match dif i l m with
      | some j => .rt (.int (j : Nat)) S
      | none => lwO S i l.length m.length e f (.nx [a0, a1, .ow [.lst (P ++ (l ++ [xE e])), .lst (Q ++ (m ++ [xE f]))], s3, s4, z] S)
  | [], [], P, Q, i, s5, hP, hQ, _, _ => by
    refine ⟨.va (.int (i : Nat)), ?_⟩
    have st := due_step c S (a0 := a0) (a1 := a1) (s3 := s3) (s4 := s4) (at_pre P [] (xE e) hP) (at_pre Q [] (xE f) hQ) (eq_tn (xE_pl he) (xE_pl hf) (by omega) (xE_tn e) (xE_tn f) S)
    rw [xE_N, xE_N] at st
    show forR _ _ (rngD (i : Int) 1) [a0, a1, .ow [.lst (P ++ [xE e]), .lst (Q ++ [xE f])], s3, s4, s5] S = lwO S i 0 0 e f (.nx [a0, a1, .ow [.lst (P ++ [xE e]), .lst (Q ++ [xE f])], s3, s4, .va (.int (i : Nat))] S)
    rw [show rngD (i : Int) 1 = .int (i : Nat) :: rngD ((i + 1 : Nat) : Int) 0 from rngD_s i 0]
    unfold lwO
    rw [if_neg (by omega), if_neg (by omega)]
    cases h1 : isN e
    · cases h2 : isN f
      · rw [h1, h2, eqB_xx he hf h1 h2] at st
        rw [if_neg (by decide)] at st ⊢
        cases h3 : eqB e f
        · rw [h3, if_neg Bool.false_ne_true] at st
          rw [if_neg Bool.false_ne_true]
          exact forR_rt rfl st
        · rw [h3, if_pos rfl] at st
          rw [if_pos rfl]
          rw [forR_nx rfl st]; rfl
      · rw [h1, h2, if_pos (by decide)] at st
        rw [if_pos (by decide)]
        exact forR_rt rfl st
    · rw [h1, Bool.true_or, if_pos rfl] at st
      rw [Bool.true_or, if_pos rfl]
      exact forR_rt rfl st
  | [], y :: m, P, Q, i, s5, hP, hQ, _, hm => by
    have hy := hm y (List.mem_cons_self ..)
    refine ⟨s5, ?_⟩
    have st := due_step c S (a0 := a0) (a1 := a1) (s3 := s3) (s4 := s4) (at_pre P [] (xE e) hP) (at_pre Q (m ++ [xE f]) y hQ) (eq_tn (xE_pl he) (hy.pt.pu (by omega)) (by omega) (xE_tn e) hy.tn S)
    have ny : isN y = false := by obtain ⟨_, _, _, _, rfl⟩ := hy.shp; rfl
    rw [xE_N, ny, Bool.or_false] at st
    show forR _ _ (rngD (i : Int) (min 1 (m.length + 1 + 1))) [a0, a1, .ow [.lst (P ++ [xE e]), .lst (Q ++ (y :: (m ++ [xE f])))], s3, s4, s5] S = lwO S i 0 (m.length + 1) e f _
    rw [show min 1 (m.length + 1 + 1) = 0 + 1 by omega, rngD_s]
    unfold lwO
    rw [if_pos (by omega)]
    cases h1 : isN e
    · rw [h1, (eqB_xd he h1 hy).1, if_neg Bool.false_ne_true, if_neg Bool.false_ne_true] at st
      rw [if_neg Bool.false_ne_true]
      exact forR_rt rfl st
    · rw [h1, if_pos rfl] at st
      rw [if_pos rfl]
      exact forR_rt rfl st
  | x :: l, [], P, Q, i, s5, hP, hQ, hl, _ => by
    have hx := hl x (List.mem_cons_self ..)
    refine ⟨s5, ?_⟩
    have st := due_step c S (a0 := a0) (a1 := a1) (s3 := s3) (s4 := s4) (at_pre P (l ++ [xE e]) x hP) (at_pre Q [] (xE f) hQ) (eq_tn (hx.pt.pu (by omega)) (xE_pl hf) (by omega) hx.tn (xE_tn f) S)
    have nx : isN x = false := by obtain ⟨_, _, _, _, rfl⟩ := hx.shp; rfl
    rw [xE_N, nx, Bool.false_or] at st
    show forR _ _ (rngD (i : Int) (min (l.length + 1 + 1) 1)) [a0, a1, .ow [.lst (P ++ (x :: (l ++ [xE e]))), .lst (Q ++ [xE f])], s3, s4, s5] S = lwO S i (l.length + 1) 0 e f _
    rw [show min (l.length + 1 + 1) 1 = 0 + 1 by omega, rngD_s]
    unfold lwO
    rw [if_neg (by omega), if_pos (by omega)]
    cases h1 : isN f
    · rw [h1, (eqB_xd hf h1 hx).2, if_neg Bool.false_ne_true, if_neg Bool.false_ne_true] at st
      rw [if_neg Bool.false_ne_true]
      exact forR_rt rfl st
    · rw [h1, if_pos rfl] at st
      rw [if_pos rfl]
      exact forR_rt rfl st
  | x :: l, y :: m, P, Q, i, s5, hP, hQ, hl, hm => by
    have hx := hl x (List.mem_cons_self ..)
    have hy := hm y (List.mem_cons_self ..)
    have nx : isN x = false := by obtain ⟨_, _, _, _, rfl⟩ := hx.shp; rfl
    have ny : isN y = false := by obtain ⟨_, _, _, _, rfl⟩ := hy.shp; rfl
    have st := due_step c S (a0 := a0) (a1 := a1) (s3 := s3) (s4 := s4) (at_pre P (l ++ [xE e]) x hP) (at_pre Q (m ++ [xE f]) y hQ) (eq_tn hx.pt.pl hy.pt.pl (by omega) hx.tn hy.tn S)
    rw [nx, ny, if_neg (by decide)] at st
    obtain ⟨z, h⟩ := due_loop c S he hf a0 a1 s3 s4 l m (P ++ [x]) (Q ++ [y]) (i + 1) (.va (.int (i : Nat))) (by simp [hP]) (by simp [hQ]) (fun z hz => hl z (List.mem_cons_of_mem _ hz)) fun z hz => hm z (List.mem_cons_of_mem _ hz)
    have eP : ∀ (P l : List Dv) (x : Dv), P ++ [x] ++ l = P ++ x :: l := fun P l x => by rw [List.append_assoc]; rfl
    rw [eP, eP] at h
    refine ⟨z, ?_⟩
    show forR _ _ (rngD (i : Int) (min (l.length + 1 + 1) (m.length + 1 + 1))) [a0, a1, .ow [.lst (P ++ (x :: (l ++ [xE e]))), .lst (Q ++ (y :: (m ++ [xE f])))], s3, s4, s5] S = match (if eqB x y then dif (i + 1) l m else some i) with
      | some j => .rt (.int (j : Nat)) S
      | none => lwO S i (l.length + 1) (m.length + 1) e f (.nx [a0, a1, .ow [.lst (P ++ (x :: (l ++ [xE e]))), .lst (Q ++ (y :: (m ++ [xE f])))], s3, s4, z] S)
    rw [show min (l.length + 1 + 1) (m.length + 1 + 1) = min (l.length + 1) (m.length + 1) + 1 by omega, rngD_s, lw_sh]
    cases hb : eqB x y
    · rw [hb, if_neg Bool.false_ne_true] at st
      rw [if_neg Bool.false_ne_true]
      exact forR_rt rfl st
    · rw [hb, if_pos rfl] at st
      rw [if_pos rfl, forR_nx rfl st, h]
end DL
namespace DL
open PySem L2
theorem lst_hdl {S : Sto} {k : Nat} {l : List Dv} (h : S[k]? = some (.lst l)) : listD S [.hdl k] = some (.lst l, S) := by simp [listD, asQ, asT, asL, h]
def SqV (S : Sto) (x : Dv) (l : List Dv) : Prop := x = .lst l ∨ ∃ k, x = .hdl k ∧ S[k]? = some (.lst l)
theorem SqV.list {S : Sto} {x : Dv} {l : List Dv} (h : SqV S x l) : listD S [x] = some (.lst l, S) := by
  rcases h with rfl | ⟨k, rfl, h⟩
  · simp
  · exact lst_hdl h
theorem SqV.len {S : Sto} {x : Dv} {l : List Dv} (h : SqV S x l) : lenD S [x] = some (.int l.length, S) := by
  rcases h with rfl | ⟨k, rfl, h⟩
  · simp
  · exact len_hdl h
theorem SqV.ix {S : Sto} {x d : Dv} {l : List Dv} {i : Int} (h : SqV S x l) (hi : atI l i = some d) : ixD S x (.int i) = some (d, S) := by
  rcases h with rfl | ⟨k, rfl, h⟩
  · simp [hi]
  · simp [h, hi]
theorem due_l0 (c : Fn → DF) {S : Sto} {x : Dv} {l L : List Dv} {e : Dv} {a0 a1 s5 : Sl} (h : SqV S x l) (hl : l.length ≤ 1000) (hL : L.length ≤ 1000) :
    fb_l_due_l0 c [a0, a1, .ow L, .va x, .va e, s5] S = .nx [a0, a1, .ow (L ++ [.lst (l ++ [xE e])]), .va x, .va e, s5] S := by
  have i1 := isnN_e e S
  have i2 := h.list
  have e1 : ∀ x : Dv, addD S (.lst l) (.lst [x]) = some (.lst (l ++ [x]), S) := fun x => if_pos (by rw [sizeLine_eq]; simp; omega)
  have hL' : L.length < sizeLine := by rw [sizeLine_eq]; omega
  unfold xE
  cases he : isN e <;> (rw [he] at i1; simp -implicitDefEqProofs [-isnot_non, fb_l_due_l0, i1, i2, e1, hL'])
theorem min_nat (S : Sto) (a b : Nat) : minD S [.int (a : Int), .int (b : Int)] = some (.int ((min a b : Nat) : Int), S) := by
  show some (Dv.int (if (b : Int) < (a : Int) then (b : Int) else (a : Int)), S) = _
  congr 3
  by_cases h : b < a
  · rw [if_pos (by omega)]; omega
  · rw [if_neg (by omega)]; omega
theorem due_ok (F : Nat) {S : Sto} {x y : Dv} {l m : List Dv} {e g : Dv} (hj : SqV S x l) (hk : SqV S y m) (hl : ∀ x ∈ l, EnD x) (hm : ∀ x ∈ m, EnD x) (he : PT 4 e) (hg : PT 4 g) (n1 : l.length ≤ 900) (n2 : m.length ≤ 900) :
    calls (F + 1) .l_due S [.tup [x, e], .tup [y, g]] = .ok (dueD l m e g) S := by
  have s0 := fun a0 a1 s5 => due_l0 (calls F) (a0 := a0) (a1 := a1) (s5 := s5) (L := []) (e := e) hj (by omega) (by simp)
  have s1 := fun a0 a1 s5 => due_l0 (calls F) (a0 := a0) (a1 := a1) (s5 := s5) (L := [.lst (l ++ [xE e])]) (e := g) hk (by omega) (by simp)
  simp only [List.nil_append, List.cons_append] at s0 s1
  obtain ⟨z, h⟩ := due_loop (calls F) S he hg (.va (.tup [x, e])) (.va (.tup [y, g])) (.va y) (.va g) l m [] [] 0 .no rfl rfl hl hm
  simp only [List.nil_append] at h
  have lp : forR (gT (gsCons (gN 3) (gsCons (gN 4) gsNil))) (fb_l_due_l0 (calls F)) [.tup [x, e], .tup [y, g]] [.va (.tup [x, e]), .va (.tup [y, g]), .ow [], .no, .no, .no] S = .nx [.va (.tup [x, e]), .va (.tup [y, g]), .ow [.lst (l ++ [xE e]), .lst (m ++ [xE g])], .va y, .va g, .no] S := by
    rw [forR_nx rfl (s0 _ _ _), forR_nx rfl (s1 _ _ _)]; rfl
  have g0 : (l ++ [xE e]).length = l.length + 1 := by simp
  have g1 : (m ++ [xE g]).length = m.length + 1 := by simp
  have hmin := min_nat S (l.length + 1) (m.length + 1)
  have er := rngR1_ok S ((min (l.length + 1) (m.length + 1) : Nat) : Int) (by omega)
  rw [Int.toNat_natCast] at er
  have end_ : ∀ E : Env, kRun (kSeq (sRet (eC .non)) (match dif 0 l m with
      | some j => .rt (.int (j : Nat)) S
      | none => lwO S 0 l.length m.length e g (.nx E S))) = .ok (dueD l m e g) S := fun E => by
    unfold dueD
    cases dif 0 l m with
    | some j => rfl
    | none =>
      show kRun (kSeq (sRet (eC .non)) (lwO S 0 l.length m.length e g (.nx E S))) = .ok (tlD 0 l.length m.length e g) S
      unfold lwO tlD
      by_cases h1 : l.length < m.length
      · rw [if_pos h1, if_pos h1]; cases isN e <;> rfl
      · rw [if_neg h1, if_neg h1]
        by_cases h2 : m.length < l.length
        · rw [if_pos h2, if_pos h2]; cases isN g <;> rfl
        · rw [if_neg h2, if_neg h2]
          cases isN e <;> cases isN g <;> cases eqB e g <;> rfl
  have fin := (congrArg (fun o => kRun (kSeq (sRet (eC .non)) o)) h).trans (end_ [.va (.tup [x, e]), .va (.tup [y, g]), .ow [.lst (l ++ [xE e]), .lst (m ++ [xE g])], .va y, .va g, z])
  clear end_ h s0 s1
  have z0 : ((0 : Nat) : Int) = 0 := rfl
  rw [z0] at fin
  generalize l ++ [xE e] = E0 at *
  generalize m ++ [xE g] = E1 at *
  rw [← g0, ← g1] at hmin er fin
  generalize hb0 : fb_l_due_l0 (calls F) = b0 at *
  generalize hb1 : fb_l_due_l1 (calls F) = b1 at *
  generalize rngD 0 (min E0.length E1.length) = rg at *
  generalize ((min E0.length E1.length : Nat) : Int) = mn at *
  generalize dueD l m e g = R at *
  rw [ev_l_due]
  unfold fb_l_due
  rw [hb0, hb1]
  simp -implicitDefEqProofs [lp, hmin, er, fin]
end DL
namespace DL
open PySem L2
theorem left_at (f : Nat) {l s : List Dv} {e a b c n : Dv} (S : Sto) {i : Nat} (hi : l[i]? = some (.tup [a, b, c, n])) (hl : l.length ≤ 1000) : calls (f + 3) .l_left S [rcD l s e, .int (i : Nat)] = .ok (if isN n then .tup [.str "none", .int (i : Nat)] else .tup [.str "left", .tup [c, n]]) S := by
  have hlt : (i : Int) < (l.length : Int) := by have := (List.getElem?_eq_some_iff.mp hi).1; omega
  have h0 : (0 : Int) ≤ (i : Int) := by omega
  have at1 : atI l (i : Int) = some (.tup [a, b, c, n]) := by rw [atI_nat']; exact hi
  have k1 := kf_rc l s e S
  have m1 := fun g fa env => m_left (g := g) (fa := fa) (env := env) l s e S
  have i1 := isN_e n S
  have kr : ∀ (E : Env), kRaise (calls (f + 1) .NoFailing_init) "NoFailing" ["index"] E [.int (i : Nat)] S = .ex "NoFailing" [("index", .int (i : Nat))] E S := fun E => rfl
  have kt : ∀ (E : Env), E.length = 3 → kTry 2 ext_NoFailing (hTup (hCons (fun _ _ => (eC (.str "none"))) (hCons (hFld xtab "index") hNil))) (.ex "NoFailing" [("index", .int (i : Nat))] E S) = .rt (.tup [.str "none", .int (i : Nat)]) S := fun E hE => kTry_ex _ _ _ _ _ _ _ _ _ rfl (by omega) rfl
  generalize rcD l s e = r at *
  generalize ((i : Nat) : Int) = k at *
  cases hn : isN n <;> (rw [hn] at i1; simp -implicitDefEqProofs [-is_non, ev_l_left, fb_l_left, ev_Record_left, fb_Record_left, m1, k1, at1, h0, hlt, i1, kr, kt])
theorem left_no (f : Nat) {l s : List Dv} {e d : Dv} (S : Sto) (h : isiD S [d, .ty "int"] = some (.bl false, S) ∨ (isiD S [d, .ty "int"] = some (.bl true, S) ∧ isiD S [d, .ty "bool"] = some (.bl true, S)) ∨ ∃ i : Int, d = .int i ∧ ((0 ≤ i ∧ ¬ i < (l.length : Int)) ∨ ¬ 0 ≤ i)) :
    calls (f + 3) .l_left S [rcD l s e, d] = .ok (.tup [.str "none", d]) S := by
  have k1 := kf_rc l s e S
  have m1 := fun g fa env => m_left (g := g) (fa := fa) (env := env) l s e S
  have kr : ∀ (E : Env), kRaise (calls (f + 1) .NoFailing_init) "NoFailing" ["index"] E [d] S = .ex "NoFailing" [("index", d)] E S := fun E => rfl
  have kt : ∀ (E : Env), E.length = 3 → kTry 2 ext_NoFailing (hTup (hCons (fun _ _ => (eC (.str "none"))) (hCons (hFld xtab "index") hNil))) (.ex "NoFailing" [("index", d)] E S) = .rt (.tup [.str "none", d]) S := fun E hE => kTry_ex _ _ _ _ _ _ _ _ _ rfl (by omega) rfl
  generalize rcD l s e = r at *
  rcases h with h | ⟨h, h'⟩ | ⟨i, rfl, ⟨h, h'⟩ | h⟩
  · simp -implicitDefEqProofs [-is_non, ev_l_left, fb_l_left, ev_Record_left, fb_Record_left, m1, k1, kr, kt, h]
  · simp -implicitDefEqProofs [-is_non, ev_l_left, fb_l_left, ev_Record_left, fb_Record_left, m1, k1, kr, kt, h, h']
  · simp -implicitDefEqProofs [-is_non, ev_l_left, fb_l_left, ev_Record_left, fb_Record_left, m1, k1, kr, kt, h, h']
  · simp -implicitDefEqProofs [-is_non, ev_l_left, fb_l_left, ev_Record_left, fb_Record_left, m1, k1, kr, kt, h]
def leX (i : Nat) (c n : Dv) : Dv := if isN n then .tup [.str "none", .int (i : Nat)] else .tup [.str "left", .tup [c, n]]
theorem leX_eq {i : Nat} {c n : Dv} (hc : Pl 2 c) (hn : Pl 2 n) (S : Sto) : eqD S (leX i c n) (leX i c n) = some true := by
  unfold leX
  cases isN n
  · exact eq_tup_same S (pl_tup fun d hd => by
      rcases List.mem_cons.mp hd with rfl | hd
      · exact pl_str (by decide +kernel)
      · rw [List.mem_singleton.mp hd]
        exact pl_tup (n := 62) fun d hd => by
          rcases List.mem_cons.mp hd with rfl | hd
          · obtain ⟨p, a, b, c⟩ := hc; exact ⟨p, a, b, by omega⟩
          · rw [List.mem_singleton.mp hd]; obtain ⟨p, a, b, c⟩ := hn; exact ⟨p, a, b, by omega⟩)
  · exact eq_tup_same S (pl_tup fun d hd => by
      rcases List.mem_cons.mp hd with rfl | hd
      · exact pl_str (by decide +kernel)
      · rw [List.mem_singleton.mp hd]; exact pl_int _ _)
theorem EnD.parts {d : Dv} (h : EnD d) : ∃ a b c n, d = .tup [a, b, c, n] ∧ PT 2 c ∧ PT 2 n := by
  obtain ⟨a, b, c, n, rfl⟩ := h.shp
  refine ⟨a, b, c, n, rfl, ?_⟩
  rcases h.pt with h | ⟨l, e, _, h⟩
  · rcases h with h | ⟨_, h⟩ | ⟨_, h, _⟩ <;> cases h
  · cases e; exact ⟨h c (by simp), h n (by simp)⟩
theorem lh_loop (f : Nat) {S : Sto} {x : Dv} {l s : List Dv} {e : Dv} (hj : SqV S x l) (hl : l.length ≤ 1000) (he : ∀ x ∈ l, EnD x) (s4 : Sl) : ∀ (m i : Nat) (s2 s3 : Sl), i + m = l.length →
    ∃ z2 z3, forR (gN 2) (fb_l_lefts_hold_l0 (calls (f + 3))) (rngD (i : Int) m) [.va (rcD l s e), .va x, s2, s3, s4] S = .nx [.va (rcD l s e), .va x, z2, z3, s4] S
  | 0, i, s2, s3, _ => ⟨s2, s3, rfl⟩
  | m + 1, i, s2, s3, h => by
    have hi : i < l.length := by omega
    obtain ⟨a, b, c, n, hx, hc, hn⟩ := (he _ (List.getElem_mem hi)).parts
    have hg : l[i]? = some (.tup [a, b, c, n]) := by rw [List.getElem?_eq_getElem hi, hx]
    have e1 := left_at f (s := s) (e := e) S hg hl
    rw [show (if isN n then Dv.tup [.str "none", .int (i : Nat)] else .tup [.str "left", .tup [c, n]]) = leX i c n from rfl] at e1
    have at1 := hj.ix (show atI l (i : Int) = some (.tup [a, b, c, n]) by rw [atI_nat']; exact hg)
    have i1 := isN_e n S
    have q := leX_eq (i := i) hc.pl hn.pl S
    obtain ⟨z2, z3, h2⟩ := lh_loop f (s := s) (e := e) hj hl he s4 m (i + 1) (.va (.int (i : Nat))) (.va (leX i c n)) (by omega)
    refine ⟨z2, z3, ?_⟩
    rw [rngD_s, forR_nx rfl ?_, h2]
    clear h2 hx hg
    unfold leX at *
    generalize rcD l s e = r at *
    generalize ((i : Nat) : Int) = k at *
    cases hnn : isN n <;> (rw [hnn] at e1 i1 q; simp -implicitDefEqProofs at e1 q; simp -implicitDefEqProofs [-is_non, fb_l_lefts_hold_l0, at1, i1, e1, q])
end DL
namespace DL
open PySem L2
def oddL (n : Nat) : List Dv := [.int (-1), .int (n : Int), .non, .bl true, .str "0", .int 100000000000000000000, .lst [.int 0]]
theorem odd_no {l : List Dv} (S : Sto) : ∀ d ∈ oddL l.length, isiD S [d, .ty "int"] = some (.bl false, S) ∨ (isiD S [d, .ty "int"] = some (.bl true, S) ∧ isiD S [d, .ty "bool"] = some (.bl true, S)) ∨ ∃ i : Int, d = .int i ∧ ((0 ≤ i ∧ ¬ i < (min l.length 1000 : Nat)) ∨ ¬ 0 ≤ i) := fun d hd => by
  simp only [oddL, List.mem_cons, List.not_mem_nil, or_false] at hd
  rcases hd with rfl | rfl | rfl | rfl | rfl | rfl | rfl
  · exact .inr (.inr ⟨_, rfl, .inr (by omega)⟩)
  · exact .inr (.inr ⟨_, rfl, .inl ⟨by omega, by omega⟩⟩)
  · exact .inl (by simp)
  · exact .inr (.inl ⟨by simp, by simp⟩)
  · exact .inl (by simp)
  · exact .inr (.inr ⟨_, rfl, .inl ⟨by omega, by omega⟩⟩)
  · exact .inl (by simp)
theorem odd_repr {n : Nat} (hn : n ≤ 8) (S : Sto) : ∀ d ∈ oddL n, ∃ z, reprD S [.tup [.str "none", d]] = some (.str z, S) := fun d hd => by
  simp only [oddL, List.mem_cons, List.not_mem_nil, or_false] at hd
  have key : ∀ d : Dv, (∃ z, ∀ S : Sto, reprD S [.tup [.str "none", d]] = some (.str z, S)) → ∃ z, reprD S [.tup [.str "none", d]] = some (.str z, S) := fun d ⟨z, h⟩ => ⟨z, h S⟩
  rcases hd with rfl | rfl | rfl | rfl | rfl | rfl | rfl
  · exact key _ ⟨"('none', -1)", fun S => by kernel_rfl⟩
  · have : n = 0 ∨ n = 1 ∨ n = 2 ∨ n = 3 ∨ n = 4 ∨ n = 5 ∨ n = 6 ∨ n = 7 ∨ n = 8 := by omega
    rcases this with rfl | rfl | rfl | rfl | rfl | rfl | rfl | rfl | rfl
    · exact key _ ⟨"('none', 0)", fun S => by kernel_rfl⟩
    · exact key _ ⟨"('none', 1)", fun S => by kernel_rfl⟩
    · exact key _ ⟨"('none', 2)", fun S => by kernel_rfl⟩
    · exact key _ ⟨"('none', 3)", fun S => by kernel_rfl⟩
    · exact key _ ⟨"('none', 4)", fun S => by kernel_rfl⟩
    · exact key _ ⟨"('none', 5)", fun S => by kernel_rfl⟩
    · exact key _ ⟨"('none', 6)", fun S => by kernel_rfl⟩
    · exact key _ ⟨"('none', 7)", fun S => by kernel_rfl⟩
    · exact key _ ⟨"('none', 8)", fun S => by kernel_rfl⟩
  · exact key _ ⟨"('none', None)", fun S => by kernel_rfl⟩
  · exact key _ ⟨"('none', True)", fun S => by kernel_rfl⟩
  · exact key _ ⟨"('none', '0')", fun S => by kernel_rfl⟩
  · exact key _ ⟨"('none', 100000000000000000000)", fun S => by kernel_rfl⟩
  · exact key _ ⟨"('none', [0])", fun S => by kernel_rfl⟩
theorem od_loop (f : Nat) {S : Sto} {l s : List Dv} {e : Dv} (s1 s2 s3 : Sl) : ∀ (ds : List Dv) (s4 : Sl), (∀ d ∈ ds, calls (f + 3) .l_left S [rcD l s e, d] = .ok (.tup [.str "none", d]) S ∧ ∃ z, reprD S [.tup [.str "none", d]] = some (.str z, S)) →
    ∃ z4, forR (gN 4) (fb_l_lefts_hold_l1 (calls (f + 3))) ds [.va (rcD l s e), s1, s2, s3, s4] S = .nx [.va (rcD l s e), s1, s2, s3, z4] S
  | [], s4, _ => ⟨s4, rfl⟩
  | d :: ds, s4, h => by
    obtain ⟨e1, z, e2⟩ := h d (List.mem_cons_self ..)
    obtain ⟨z4, h2⟩ := od_loop f (l := l) (s := s) (e := e) s1 s2 s3 ds (.va d) fun x hx => h x (List.mem_cons_of_mem _ hx)
    refine ⟨z4, ?_⟩
    rw [forR_nx rfl ?_, h2]
    generalize rcD l s e = r at *
    simp -implicitDefEqProofs [fb_l_lefts_hold_l1, e1, e2]
theorem pow_20 (S : Sto) : pu2 powD S (.int 10) (.int 20) = some (.int 100000000000000000000, S) := by kernel_rfl
theorem lefts_ok (f : Nat) {S : Sto} {x : Dv} {l s : List Dv} {e : Dv} (hj : SqV S x l) (hl : l.length ≤ 8) (he : ∀ x ∈ l, EnD x) : calls (f + 4) .l_lefts_hold S [rcD l s e, x] = .ok (.bl true) S := by
  obtain ⟨z2, z3, h1⟩ := lh_loop f (s := s) (e := e) hj (by omega) he .no l.length 0 .no .no (by omega)
  obtain ⟨z4, h2⟩ := od_loop f (S := S) (l := l) (s := s) (e := e) (.va x) z2 z3 (oddL l.length) .no fun d hd => ⟨left_no f S (by
    have := odd_no S d hd
    rw [Nat.min_eq_left (by omega)] at this
    exact this), odd_repr hl S d hd⟩
  have ln := hj.len
  have er := rngR1_ok S (l.length : Int) (by omega)
  rw [Int.toNat_natCast] at er
  rw [show ((0 : Nat) : Int) = 0 from rfl] at h1
  have pw := pow_20 S
  unfold oddL at h2
  generalize rcD l s e = r at *
  have tp : ∀ a b c d e f g : Dv, tupR [a, b, c, d, e, f, g] S = .ok (.tup [a, b, c, d, e, f, g]) S := fun a b c d e f g => if_pos (by rw [sizeLine_eq]; simp)
  generalize rngD 0 l.length = rg at *
  generalize (l.length : Int) = n at *
  simp -implicitDefEqProofs [ev_l_lefts_hold, fb_l_lefts_hold, ln, er, h1, h2, pw, tp]
end DL
namespace DL
open PySem L2
def TakeF (f b : Nat) : Prop := ∀ S, BagAt S b → ∀ n : Int, 0 < n → n < 1073741824 → ∃ r o, calls f .l_take S [.hdl b, .int n] = .ok (.int r) (S.set b o) ∧ 0 ≤ r ∧ r < n ∧ BagOk o
theorem takeF (f b : Nat) : TakeF (f + 1) b := fun S h n h1 h2 => take_ok f h h1 h2
theorem takeF' {f : Nat} (b : Nat) (h : 1 ≤ f) : TakeF f b := by
  obtain ⟨g, rfl⟩ : ∃ g, f = g + 1 := ⟨f - 1, by omega⟩
  exact takeF g b
theorem atI_r {γ : Type} {l : List γ} {r : Int} (h0 : 0 ≤ r) (h1 : r < l.length) : ∃ d, atI l r = some d ∧ d ∈ l := by
  have hr : r.toNat < l.length := by omega
  exact ⟨l[r.toNat], by unfold atI; rw [ixN_ok h0 h1]; simp [hr], List.getElem_mem hr⟩
theorem one_ok {f b : Nat} (T : TakeF f b) {S : Sto} {l : List Dv} (hB : BagAt S b) (h0 : l ≠ []) (h1 : l.length < 1000000) : ∃ d o, calls (f + 1) .l_one S [.hdl b, .lst l] = .ok d (S.set b o) ∧ d ∈ l ∧ BagOk o := by
  have hl : 0 < l.length := List.length_pos_iff.mpr h0
  obtain ⟨r, o, e, r0, r1, ho⟩ := T S hB l.length (by omega) (by omega)
  obtain ⟨d, hd, hm⟩ := atI_r r0 r1
  exact ⟨d, o, by simp [ev_l_one, fb_l_one, e, hd], hm, ho⟩
def BU (b : Nat) (S S' : Sto) : Prop := ∃ o, S' = S.set b o ∧ BagOk o
theorem BU.get {b j : Nat} {S S' : Sto} (h : BU b S S') (hj : b ≠ j) : S'[j]? = S[j]? := by
  obtain ⟨o, rfl, _⟩ := h
  rw [List.getElem?_set, if_neg hj]
theorem BU.bag {b : Nat} {S S' : Sto} (h : BU b S S') (hb : BagAt S b) : BagAt S' b := by
  obtain ⟨o, rfl, ho⟩ := h
  exact hb.set ho
theorem BU.trans {b : Nat} {S S' S2 : Sto} (h : BU b S S') (g : BU b S' S2) : BU b S S2 := by
  obtain ⟨o, rfl, ho⟩ := h
  obtain ⟨u, rfl, hu⟩ := g
  exact ⟨u, by rw [List.set_set], hu⟩
theorem BU.refl {b : Nat} {S : Sto} (hb : BagAt S b) : BU b S S := by
  obtain ⟨o, h, ho⟩ := hb
  obtain ⟨h1, h2⟩ := List.getElem?_eq_some_iff.mp h
  exact ⟨o, by rw [← h2, List.set_getElem_self], ho⟩
theorem BU.len {b : Nat} {S S' : Sto} (h : BU b S S') : S'.length = S.length := by
  obtain ⟨o, rfl, _⟩ := h
  rw [List.length_set]
theorem takeU {f b : Nat} (hf : 1 ≤ f) {S : Sto} (hB : BagAt S b) {n : Int} (h1 : 0 < n) (h2 : n < 1073741824) : ∃ r S', calls f .l_take S [.hdl b, .int n] = .ok (.int r) S' ∧ BU b S S' ∧ 0 ≤ r ∧ r < n := by
  obtain ⟨r, o, e, r0, r1, ho⟩ := takeF' b hf S hB n h1 h2
  exact ⟨r, _, e, ⟨o, rfl, ho⟩, r0, r1⟩
theorem oneU {f b : Nat} (hf : 2 ≤ f) {S : Sto} (hB : BagAt S b) {l : List Dv} (h1 : l ≠ []) (h2 : l.length < 1000000) : ∃ d S', calls f .l_one S [.hdl b, .lst l] = .ok d S' ∧ BU b S S' ∧ d ∈ l := by
  obtain ⟨g, rfl⟩ : ∃ g, f = g + 1 := ⟨f - 1, by omega⟩
  obtain ⟨d, o, e, hd, ho⟩ := one_ok (takeF' b (show 1 ≤ g by omega)) hB h1 h2
  exact ⟨d, _, e, ⟨o, rfl, ho⟩, hd⟩
theorem lc_draw {b : Nat} {tg : DG} {te : DE} {e : Env} (P : Dv → Prop) : ∀ (l : List Dv) {S : Sto}, BagAt S b → (∀ d ∈ l, ∃ e1, tg d e = some e1 ∧ ∀ S, BagAt S b → ∃ y S', te e1 S = .ok y S' ∧ BU b S S' ∧ P y) →
    ∃ ys S', lcR tg tTrue te e l S = .ok ys S' ∧ BU b S S' ∧ ys.length = l.length ∧ ∀ y ∈ ys, P y
  | [], S, hB, _ => ⟨[], S, rfl, .refl hB, rfl, fun _ h => nomatch h⟩
  | d :: l, S, hB, h => by
    obtain ⟨e1, g1, h1⟩ := h d (List.mem_cons_self ..)
    obtain ⟨y, S1, g2, u1, py⟩ := h1 S hB
    obtain ⟨ys, S2, g3, u2, n, p⟩ := lc_draw P l (u1.bag hB) fun x hx => h x (List.mem_cons_of_mem _ hx)
    refine ⟨y :: ys, S2, lcR_t g1 rfl g2 g3, u1.trans u2, by simp [n], fun z hz => ?_⟩
    rcases List.mem_cons.mp hz with rfl | hz
    · exact py
    · exact p z hz
theorem cutG_mem {α : Type} {l : List α} {lo hi : Option Int} {x : α} (h : x ∈ cutG l lo hi) : x ∈ l := by
  unfold cutG at h
  first | exact List.mem_of_mem_drop (List.mem_of_mem_take h) | exact List.mem_of_mem_take (List.mem_of_mem_drop h)
theorem rng_mem {n : Nat} {d : Dv} (h : d ∈ rngD 0 n) : ∃ i : Int, d = .int i := by
  unfold rngD at h
  obtain ⟨i, _, rfl⟩ := List.mem_map.mp h
  exact ⟨_, rfl⟩
theorem lf_int (i : Int) : Lf (.int i) := .inr (.inl ⟨i, rfl⟩)
theorem pt_tup {n : Nat} {l : List Dv} (hl : l.length ≤ 1000) (h : ∀ x ∈ l, PT n x) : PT (n + 1) (.tup l) := .inr ⟨l, rfl, hl, h⟩
theorem entry_ok {f b : Nat} (hf : 3 ≤ f) {S : Sto} (hB : BagAt S b) : ∃ d S', calls (f + 1) .l_entry S [.hdl b] = .ok d S' ∧ BU b S S' ∧ EnD d ∧ ∃ a g c n, d = .tup [a, g, c, n] ∧ Tn c ∧ Tn n ∧ PT 2 c ∧ PT 2 n := by
  obtain ⟨r1, S1, e1, u1, a1, b1⟩ := takeU (show 1 ≤ f by omega) hB (n := 3) (by omega) (by omega)
  have B1 := u1.bag hB
  have rg1 := rngR1_ok S1 r1 (by omega)
  obtain ⟨cs, S2, l1, u2, n1, p1⟩ := lc_draw (b := b) (tg := gN 5) (te := eTup (aCons (eVar 5) (aCons (eCall (calls f .l_take) (aCons (eVar 0) (aCons (eC (.int 3)) aNil))) (aCons (eCall (calls f .l_take) (aCons (eVar 0) (aCons (eC (.int 3)) aNil))) aNil)))) (e := [.va (.hdl b), .no, .no, .no, .no, .no, .no]) (PT 1) (rngD 0 r1.toNat) B1 fun d hd => by
    obtain ⟨i, rfl⟩ := rng_mem hd
    refine ⟨[.va (.hdl b), .no, .no, .no, .no, .va (.int i), .no], rfl, fun S hB => ?_⟩
    obtain ⟨x, Sx, ex, ux, _⟩ := takeU (show 1 ≤ f by omega) hB (n := 3) (by omega) (by omega)
    obtain ⟨y, Sy, ey, uy, _⟩ := takeU (show 1 ≤ f by omega) (ux.bag hB) (n := 3) (by omega) (by omega)
    refine ⟨.tup [.int i, .int x, .int y], Sy, ?_, ux.trans uy, pt_tup (by simp) fun z hz => ?_⟩
    · simp -implicitDefEqProofs [ex, ey]
    · simp only [List.mem_cons, List.not_mem_nil, or_false] at hz
      rcases hz with rfl | rfl | rfl <;> exact lf_int _
  have B2 := u2.bag B1
  rw [rngD_len] at n1
  have k1 := kLcEnd' (S := S2) (l := cs) (by omega)
  obtain ⟨r2, S3, e2, u3, a2, b2⟩ := takeU (show 1 ≤ f by omega) B2 (n := 3) (by omega) (by omega)
  have B3 := u3.bag B2
  obtain ⟨nm, hnm⟩ : ∃ nm, cutG [Dv.str "a", .str "b"] none (some r2) = nm := ⟨_, rfl⟩
  have hm : ∀ x ∈ nm, Lf x := fun x hx => by
    rw [← hnm] at hx
    have := cutG_mem hx
    simp only [List.mem_cons, List.not_mem_nil, or_false] at this
    rcases this with rfl | rfl
    · exact .inr (.inr ⟨_, rfl, by decide +kernel⟩)
    · exact .inr (.inr ⟨_, rfl, by decide +kernel⟩)
  have hnl : nm.length ≤ 2 := by rw [← hnm]; exact cutG_len _ _ _
  have c2 : cutD S3 (.tup [.str "a", .str "b"]) none (some r2) = some (.tup nm, S3) := by rw [← hnm]; rfl
  obtain ⟨ns, S4, l2, u4, n2, p2⟩ := lc_draw (b := b) (tg := gN 6) (te := eTup (aCons (eVar 6) (aCons (eCall (calls f .l_take) (aCons (eVar 0) (aCons (eC (.int 3)) aNil))) aNil))) (e := [.va (.hdl b), .va (.tup cs), .no, .no, .no, .no, .no]) (PT 1) nm B3 fun d hd => by
    have hd := hm d hd
    refine ⟨[.va (.hdl b), .va (.tup cs), .no, .no, .no, .no, .va d], rfl, fun S hB => ?_⟩
    obtain ⟨x, Sx, ex, ux, _⟩ := takeU (show 1 ≤ f by omega) hB (n := 3) (by omega) (by omega)
    refine ⟨.tup [d, .int x], Sx, ?_, ux, pt_tup (by simp) fun z hz => ?_⟩
    · simp -implicitDefEqProofs [ex]
    · simp only [List.mem_cons, List.not_mem_nil, or_false] at hz
      rcases hz with rfl | rfl
      · exact hd
      · exact lf_int _
  have B4 := u4.bag B3
  have k2 := kLcEnd' (S := S4) (l := ns) (by omega)
  obtain ⟨r3, S5, e3, u5, a3, b3⟩ := takeU (show 1 ≤ f by omega) B4 (n := 4) (by omega) (by omega)
  have B5 := u5.bag B4
  obtain ⟨r4, S6, e4, u6, a4, b4⟩ := takeU (show 1 ≤ f by omega) B5 (n := 3) (by omega) (by omega)
  have B6 := u6.bag B5
  have rg4 := rngR1_ok S6 r4 (by omega)
  obtain ⟨gs, S7, l4, u7, n4, p4⟩ := lc_draw (b := b) (tg := gN 5) (te := eCall (calls f .l_take) (aCons (eVar 0) (aCons (eC (.int 3)) aNil))) (e := [.va (.hdl b), .va (.tup cs), .va (.tup ns), .va (.int r3), .no, .no, .no]) Lf (rngD 0 r4.toNat) B6 fun d hd => by
    refine ⟨[.va (.hdl b), .va (.tup cs), .va (.tup ns), .va (.int r3), .no, .va d, .no], rfl, fun S hB => ?_⟩
    obtain ⟨x, Sx, ex, ux, _⟩ := takeU (show 1 ≤ f by omega) hB (n := 3) (by omega) (by omega)
    refine ⟨.int x, Sx, ?_, ux, lf_int _⟩
    simp -implicitDefEqProofs [ex]
  have B7 := u7.bag B6
  rw [rngD_len] at n4
  have k4 := kLcEnd' (S := S7) (l := gs) (by omega)
  obtain ⟨sg, S8, e8, u8, hsg⟩ := oneU (show 2 ≤ f by omega) B7 (l := [.str "f", .str "g"]) (by simp) (by simp)
  have lsg : Lf sg := by
    simp only [List.mem_cons, List.not_mem_nil, or_false] at hsg
    rcases hsg with rfl | rfl
    · exact .inr (.inr ⟨_, rfl, by decide +kernel⟩)
    · exact .inr (.inr ⟨_, rfl, by decide +kernel⟩)
  have en : ∀ c n : Dv, PT 2 c → PT 2 n → EnD (.tup [sg, .tup gs, c, n]) := fun c n hc hn => ⟨pt_tup (by simp) fun z hz => by
    simp only [List.mem_cons, List.not_mem_nil, or_false] at hz
    rcases hz with rfl | rfl | rfl | rfl
    · exact lsg.pt 2
    · exact pt_tup (n := 1) (by omega) fun z hz => (p4 z hz).pt 1
    · exact hc
    · exact hn, ⟨_, _, _, _, rfl⟩⟩
  have pc : PT 2 (.tup cs) := pt_tup (by omega) p1
  have pn : PT 2 (.tup ns) := pt_tup (by omega) p2
  have p0 : PT 2 .non := Lf.pt (.inl rfl) 2
  have uu := ((((((u1.trans u2).trans u3).trans u4).trans u5).trans u6).trans u7).trans u8
  clear u1 u2 u3 u4 u5 u6 u7 u8 B1 B2 B3 B4 B5 B6 B7 hB p1 p2 p4 hsg lsg hm hnm
  generalize rngD 0 r1.toNat = q1 at *
  generalize rngD 0 r4.toNat = q4 at *
  refine ⟨.tup [sg, .tup gs, if r3 = 0 then .non else .tup cs, if r3 < 2 then .non else .tup ns], S8, ?_, uu, en _ _ (by split <;> assumption) (by split <;> assumption), _, _, _, _, rfl, by split <;> first | exact .inl rfl | exact .inr ⟨_, rfl⟩, by split <;> first | exact .inl rfl | exact .inr ⟨_, rfl⟩, by split <;> assumption, by split <;> assumption⟩
  clear en uu pc pn p0
  by_cases h0 : r3 = 0
  · subst h0
    simp -implicitDefEqProofs [ev_l_entry, fb_l_entry, e1, rg1, l1, k1, e2, c2, l2, k2, e3, e4, rg4, l4, k4, e8]
  · by_cases h2 : r3 < 2
    · simp -implicitDefEqProofs [ev_l_entry, fb_l_entry, e1, rg1, l1, k1, e2, c2, l2, k2, e3, e4, rg4, l4, k4, e8, h0, h2]
    · simp -implicitDefEqProofs [ev_l_entry, fb_l_entry, e1, rg1, l1, k1, e2, c2, l2, k2, e3, e4, rg4, l4, k4, e8, h0, h2]
theorem or_tn {d : Dv} (h : Tn d) (hp : PT 2 d) : ∃ d', (∀ (S : Sto) (f : DE) (e : Env), f e S = .ok d S → eOr f (eTup aNil) e S = .ok d' S) ∧ PT 2 d' := by
  have nilT : PT 2 (.tup []) := pt_tup (by simp) fun _ h => nomatch h
  rcases h with rfl | ⟨l, rfl⟩
  · exact ⟨.tup [], fun S f e h => by simp [h], nilT⟩
  · cases l with
    | nil => exact ⟨.tup [], fun S f e h => by simp [h], nilT⟩
    | cons x l => exact ⟨.tup (x :: l), fun S f e h => by simp [h], hp⟩
theorem end_d {f b : Nat} (hf : 4 ≤ f) {S : Sto} (hB : BagAt S b) : ∃ d S', calls (f + 1) .l_end S [.hdl b] = .ok d S' ∧ BU b S S' ∧ PT 4 d ∧ Tn d := by
  obtain ⟨g, rfl⟩ : ∃ g, f = g + 1 := ⟨f - 1, by omega⟩
  obtain ⟨d, S1, e1, u1, _, a, q, c, n, rfl, tc, tn, pc, pn⟩ := entry_ok (f := g) (by omega) hB
  obtain ⟨r, S2, e2, u2, _⟩ := takeU (show 1 ≤ g + 1 by omega) (u1.bag hB) (n := 3) (by omega) (by omega)
  obtain ⟨c', oc, pc'⟩ := or_tn tc pc
  obtain ⟨n', on, pn'⟩ := or_tn tn pn
  have o1 := oc S2 (eBin ixD (eVar 1) (eC (.int 2))) [.va (.hdl b), .va (.tup [a, q, c, n])] (by simp)
  have o2 := on S2 (eBin ixD (eVar 1) (eC (.int 3))) [.va (.hdl b), .va (.tup [a, q, c, n])] (by simp)
  by_cases h : r = 0
  · refine ⟨.non, S2, ?_, u1.trans u2, Lf.pt (.inl rfl) 4, .inl rfl⟩
    subst h
    simp -implicitDefEqProofs [ev_l_end, fb_l_end, e1, e2]
  · refine ⟨.tup [c', n'], S2, ?_, u1.trans u2, (pt_tup (n := 2) (by simp) fun z hz => ?_).up (by omega), .inr ⟨_, rfl⟩⟩
    · simp -implicitDefEqProofs [-ev_eor, ev_l_end, fb_l_end, e1, e2, h, o1, o2]
    · simp only [List.mem_cons, List.not_mem_nil, or_false] at hz
      rcases hz with rfl | rfl <;> assumption
end DL
namespace DL
open PySem L2
def tA (c : Fn → DF) : DS := (sPar 3 4 (aCons (eFrz (fLc (iRng1' (aCons (eCall (c .l_take) (aCons (eVar 1) (aCons (eC (.int 5)) aNil))) aNil)) (gN 18) tTrue (eCall (c .l_entry) (aCons (eVar 1) aNil)) [18])) (aCons (eCall (c .l_end) (aCons (eVar 1) aNil)) aNil)))
def tB (c : Fn → DF) : DS := (sPar 5 6 (aCons (eNew (fList (aCons (eVar 3) aNil))) (aCons (eVar 4) aNil)))
def tC (c : Fn → DF) : DS := (sFor (iRng1' (aCons (eCall (c .l_take) (aCons (eVar 1) (aCons (eC (.int 3)) aNil))) aNil)) (gN 7) (fb_law_l0 c))
def tD (c : Fn → DF) : DS := (sPar 10 11 (aCons (eCall (c .l_lists) (aCons (eVar 3) aNil)) (aCons (eNew (fRng (eCB lenD (aCons (eVar 3) aNil)))) aNil)))
def tE (c : Fn → DF) : DS := (sAsg 12 (eCall (c .l_lists) (aCons (eVar 4) aNil)))
def tF (c : Fn → DF) : DS := (sAsg 13 (eMkL "Record" dl_Record_3 (c .Record_init) (aCons (eVar 10) (aCons (eVar 11) (aCons (eVar 12) aNil)))))
def tG (c : Fn → DF) : DS := (sFor (iSq (eTup (aCons (eVar 10) (aCons (eVar 11) (aCons (eVar 12) aNil))))) (gN 14) (fb_law_l1 c))
def tH (c : Fn → DF) : DS := (sAsg 15 (eMkL "Record" dl_Record_3 (c .Record_init) (aCons (eCB tupleD (aCons (eVar 5) aNil)) (aCons (eCB tupleD (aCons (eFrz (fLc (iRng1' (aCons (eCB lenD (aCons (eVar 5) aNil)) aNil)) (gN 18) tTrue (eBin addD (eVar 18) (eC (.int 5))) [18])) aNil)) (aCons (eVar 6) aNil)))))
def tI (c : Fn → DF) : DS := (sIf (tOr' (tVal (eBin neE (eMeth "Record" "entries" [] (c .Record_entries) (eVar 13) aNil) (eCB tupleD (aCons (eVar 3) aNil)))) (tOr' (tVal (eBin neE (eMeth "Record" "end" [] (c .Record_end) (eVar 13) aNil) (eVar 4))) (tVal (eBin neE (eMeth "Record" "sites" [] (c .Record_sites) (eVar 13) aNil) (eRngT (eCB lenD (aCons (eVar 3) aNil))))))) (sRet (eC (.bl false))) sNil)
def tJ (c : Fn → DF) : DS := (sIf (tOr' (tVal (eBin neE (eLenC "Record" (c .Record_len) (eVar 13)) (eCB lenD (aCons (eVar 3) aNil)))) (tOr' (tVal (eBin neE (eEqO false "Record" (c .Record_eq) (eVar 13) (eVar 15)) (eAnd (eBin eqE (eVar 3) (eVar 5)) (eBin eqE (eVar 4) (eVar 6))))) (tVal (eEqO false "Record" (c .Record_eq) (eVar 13) (eVar 4))))) (sRet (eC (.bl false))) sNil)
def tK (c : Fn → DF) : DS := (sAsg 16 (eCall (c .l_due) (aCons (eTup (aCons (eVar 3) (aCons (eVar 4) aNil))) (aCons (eTup (aCons (eVar 5) (aCons (eVar 6) aNil))) aNil))))
def tL (c : Fn → DF) : DS := (sFor (iSq (eTup (aCons (eCall (c .parted_at) (aCons (eVar 13) (aCons (eVar 15) aNil))) (aCons (eCall (c .parted_at) (aCons (eVar 15) (aCons (eVar 13) aNil))) aNil)))) (gN 17) (fb_law_l2 c))
def tM (c : Fn → DF) : DS := (sIf (tOr' (tVal (eBin (pu2 (isD true)) (eCall (c .parted_at) (aCons (eVar 13) (aCons (eVar 13) aNil))) (eC .non))) (tOr' (tNot' (tTru (eCall (c .l_lefts_hold) (aCons (eVar 13) (aCons (eVar 3) aNil))))) (tNot' (tTru (eCall (c .l_lefts_hold) (aCons (eVar 15) (aCons (eVar 5) aNil))))))) (sRet (eC (.bl false))) sNil)
theorem fb_law_l3_eq (c : Fn → DF) : fb_law_l3 c = sSeq (tA c) (sSeq (tB c) (sSeq (tC c) (sSeq (tD c) (sSeq (tE c) (sSeq (tF c) (sSeq (tG c) (sSeq (tH c) (sSeq (tI c) (sSeq (tJ c) (sSeq (tK c) (sSeq (tL c) (tM c)))))))))))) := rfl
theorem new_ne {b : Nat} {S : Sto} (h : BagAt S b) : b ≠ S.length := by
  obtain ⟨o, h, _⟩ := h
  exact Nat.ne_of_lt (List.getElem?_eq_some_iff.mp h).1
theorem tA_ok {F b : Nat} (hF : 5 ≤ F) {S : Sto} (hB : BagAt S b) {a0 s2 s3 s4 s5 s6 s7 s8 s9 s10 s11 s12 s13 s14 s15 s16 s17 : Sl} : ∃ (es : List Dv) (e : Dv) (S' : Sto), tA (calls (F + 1)) [a0, .va (.hdl b), s2, s3, s4, s5, s6, s7, s8, s9, s10, s11, s12, s13, s14, s15, s16, s17, .no] S = .nx [a0, .va (.hdl b), s2, .va (.lst es), .va e, s5, s6, s7, s8, s9, s10, s11, s12, s13, s14, s15, s16, s17, .no] S' ∧ BagAt S' b ∧ es.length ≤ 4 ∧ (∀ x ∈ es, EnD x) ∧ PT 4 e ∧ Tn e := by
  obtain ⟨r, S1, e1, u1, r0, r1⟩ := takeU (show 1 ≤ F + 1 by omega) hB (n := 5) (by omega) (by omega)
  have B1 := u1.bag hB
  have rg := rngR1_ok S1 r (by omega)
  obtain ⟨es, S2, l1, u2, n1, p1⟩ := lc_draw (b := b) (tg := gN 18) (te := eCall (calls (F + 1) .l_entry) (aCons (eVar 1) aNil)) (e := [a0, .va (.hdl b), s2, s3, s4, s5, s6, s7, s8, s9, s10, s11, s12, s13, s14, s15, s16, s17, .no]) EnD (rngD 0 r.toNat) B1 fun d hd => by
    refine ⟨[a0, .va (.hdl b), s2, s3, s4, s5, s6, s7, s8, s9, s10, s11, s12, s13, s14, s15, s16, s17, .va d], rfl, fun S hB => ?_⟩
    obtain ⟨x, S2, ex, ux, hx, _⟩ := entry_ok (f := F) (by omega) hB
    exact ⟨x, S2, by simp -implicitDefEqProofs [ex], ux, hx⟩
  have B2 := u2.bag B1
  rw [rngD_len] at n1
  have k1 := kLcEnd' (S := S2) (l := es) (by omega)
  obtain ⟨e, S4, e4, u4, pe, te⟩ := end_d (f := F) (by omega) B2
  refine ⟨es, e, S4, ?_, u4.bag B2, by omega, p1, pe, te⟩
  generalize rngD 0 r.toNat = rg1 at *
  clear n1 p1
  simp -implicitDefEqProofs [tA, e1, rg, l1, k1, e4]
theorem tB_ok {F b : Nat} {e : Dv} {es : List Dv} {S : Sto} {a0 s2 s5 s6 s7 s8 s9 s10 s11 s12 s13 s14 s15 s16 s17 : Sl} : tB (calls F) [a0, .va (.hdl b), s2, .va (.lst es), .va e, s5, s6, s7, s8, s9, s10, s11, s12, s13, s14, s15, s16, s17, .no] S = .nx [a0, .va (.hdl b), s2, .va (.lst es), .va e, .va (.hdl S.length), .va e, s7, s8, s9, s10, s11, s12, s13, s14, s15, s16, s17, .no] (S ++ [.lst es]) := by
  simp -implicitDefEqProofs [tB]
structure Cs (b n k : Nat) (m : List Dv) (S : Sto) : Prop where
  bag : BagAt S b
  oth : S[k]? = some (.lst m)
  kb : k ≠ b
  len : m.length ≤ n
  mem : ∀ x ∈ m, EnD x
theorem Cs.bu {b n k : Nat} {m : List Dv} {S S' : Sto} (h : Cs b n k m S) (u : BU b S S') : Cs b n k m S' :=
  ⟨u.bag h.bag, (u.get h.kb.symm).trans h.oth, h.kb, h.len, h.mem⟩
theorem Cs.put {b n k : Nat} {m m' : List Dv} {S : Sto} (h : Cs b n k m S) (hl : m'.length ≤ n + 1) (hm : ∀ x ∈ m', EnD x) : Cs b (n + 1) k m' (S.set k (.lst m')) := by
  have hlt := (List.getElem?_eq_some_iff.mp h.oth).1
  refine ⟨?_, by rw [List.getElem?_set, if_pos rfl, if_pos hlt], h.kb, hl, hm⟩
  obtain ⟨o, ho, hk⟩ := h.bag
  exact ⟨o, by rw [List.getElem?_set, if_neg h.kb]; exact ho, hk⟩
theorem Cs.new {b n k : Nat} {m m' : List Dv} {S : Sto} (h : Cs b n k m S) (hl : m'.length ≤ n + 1) (hm : ∀ x ∈ m', EnD x) : Cs b (n + 1) S.length m' (S ++ [.lst m']) := by
  obtain ⟨o, ho, hk⟩ := h.bag
  have lb := (List.getElem?_eq_some_iff.mp ho).1
  exact ⟨⟨o, app_get _ _ ho, hk⟩, by simp, by omega, hl, hm⟩
theorem Cs.up {b n k : Nat} {m : List Dv} {S : Sto} (h : Cs b n k m S) : Cs b (n + 1) k m S := ⟨h.bag, h.oth, h.kb, Nat.le_succ_of_le h.len, h.mem⟩
theorem splice_ok {m : List Dv} {x : Dv} {r q : Nat} (hm : ∀ y ∈ m, EnD y) (hx : EnD x) (h : r ≤ q) : (m.take r ++ [x] ++ m.drop q).length ≤ m.length + 1 ∧ ∀ y ∈ m.take r ++ [x] ++ m.drop q, EnD y := by
  constructor
  · simp only [List.length_append, List.length_take, List.length_drop, List.length_cons, List.length_nil]; omega
  · intro y hy
    rcases List.mem_append.mp hy with hy | hy
    · rcases List.mem_append.mp hy with hy | hy
      · exact hm y (List.mem_of_mem_take hy)
      · rw [List.mem_singleton.mp hy]; exact hx
    · exact hm y (List.mem_of_mem_drop hy)
theorem cutPut_at {S : Sto} {k : Nat} {m : List Dv} {x : Dv} {r : Int} (h : S[k]? = some (.lst m)) (hl : m.length ≤ 1000) (h0 : 0 ≤ r) (h1 : r < (m.length : Int) + 1) : ∃ p q, p ≤ q ∧ cutPut S (.hdl k) (.lst [x]) (some r) (some (r + 1)) = some (S.set k (.lst (m.take p ++ [x] ++ m.drop q))) := by
  have e1 : HT.sIx m.length 0 (some r) = r.toNat := by
    show (if r < 0 then (r + (m.length : Int)).toNat else min r.toNat m.length) = _
    rw [if_neg (by omega)]; omega
  have e2 : HT.sIx m.length m.length (some (r + 1)) = min (r + 1).toNat m.length := by
    show (if r + 1 < 0 then (r + 1 + (m.length : Int)).toNat else min (r + 1).toNat m.length) = _
    rw [if_neg (by omega)]
  refine ⟨r.toNat, min (r + 1).toNat m.length, by omega, ?_⟩
  unfold cutPut
  simp only [h, e1, e2]
  rw [if_pos ⟨by omega, by omega, by rw [sizeLine_eq]; simp; omega⟩]
theorem chg_ok {F b n k : Nat} (hF : 5 ≤ F) {es m : List Dv} {e f : Dv} {S : Sto} (h : Cs b n k m S) (hn : n ≤ 900) (pf : PT 4 f) (tf : Tn f) {a0 s2 s7 s8 s9 s10 s11 s12 s13 s14 s15 s16 s17 : Sl} :
    ∃ (k' : Nat) (m' : List Dv) (f' : Dv) (z8 z9 : Sl) (S' : Sto), fb_law_l0 (calls (F + 1)) [a0, .va (.hdl b), s2, .va (.lst es), .va e, .va (.hdl k), .va f, s7, s8, s9, s10, s11, s12, s13, s14, s15, s16, s17, .no] S = .nx [a0, .va (.hdl b), s2, .va (.lst es), .va e, .va (.hdl k'), .va f', s7, z8, z9, s10, s11, s12, s13, s14, s15, s16, s17, .no] S' ∧ Cs b (n + 1) k' m' S' ∧ PT 4 f' ∧ Tn f' := by
  have hl := h.len
  obtain ⟨r, S1, e1, u1, r0, r1⟩ := takeU (show 1 ≤ F + 1 by omega) h.bag (n := (m.length : Int) + 1) (by omega) (by omega)
  have c1 := h.bu u1
  obtain ⟨w, S2, e2, u2, w0, w1⟩ := takeU (show 1 ≤ F + 1 by omega) c1.bag (n := 4) (by omega) (by omega)
  have c2 := c1.bu u2
  have ln := len_hdl h.oth
  clear u1 u2 c1
  have hw : w = 0 ∨ w = 1 ∨ w = 2 ∨ w = 3 := by omega
  rcases hw with rfl | rfl | rfl | rfl
  · obtain ⟨f', S3, e3, u3, pf', tf'⟩ := end_d (f := F) (by omega) c2.bag
    refine ⟨k, m, f', .va (.int r), .va (.int 0), S3, ?_, (c2.bu u3).up, pf', tf'⟩
    simp -implicitDefEqProofs [fb_law_l0, ln, e1, e2, e3]
  · have e3 := cutF_hdl c2.oth none (some r)
    refine ⟨S2.length, cutG m none (some r), f, .va (.int r), .va (.int 1), _, ?_, c2.new (Nat.le_trans (cutG_len _ _ _) (by omega)) (fun x hx => h.mem x (cutG_mem hx)), pf, tf⟩
    simp -implicitDefEqProofs [fb_law_l0, ln, e1, e2, e3]
  · obtain ⟨x, S3, e3, u3, hx, _⟩ := entry_ok (f := F) (by omega) c2.bag
    have c3 := c2.bu u3
    have e4 : hdlM insD S3 (.hdl k) [.int r, x] = .ok .non (S3.set k (.lst (m.take r.toNat ++ [x] ++ m.drop r.toNat))) := by
      simp only [hdlM, c3.oth, insD]
      rw [if_pos ⟨by rw [sizeLine_eq]; omega, r0, by omega⟩]
    have sp := splice_ok (m := m) h.mem hx (Nat.le_refl r.toNat)
    refine ⟨k, _, f, .va (.int r), .va (.int 2), _, ?_, c3.put (Nat.le_trans sp.1 (by omega)) sp.2, pf, tf⟩
    simp -implicitDefEqProofs only [fb_law_l0]
    generalize m.take r.toNat ++ [x] ++ m.drop r.toNat = m' at *
    have o2 := c2.oth
    simp -implicitDefEqProofs [ln, e1, e2, o2, e3, e4]
  · obtain ⟨x, S3, e3, u3, hx, _⟩ := entry_ok (f := F) (by omega) c2.bag
    have c3 := c2.bu u3
    obtain ⟨p, q, pq, e4⟩ := cutPut_at (x := x) c3.oth (by omega) r0 r1
    have sp := splice_ok (m := m) h.mem hx pq
    refine ⟨k, _, f, .va (.int r), .va (.int 3), _, ?_, c3.put (Nat.le_trans sp.1 (by omega)) sp.2, pf, tf⟩
    generalize m.take p ++ [x] ++ m.drop q = m' at *
    simp -implicitDefEqProofs [fb_law_l0, ln, e1, e2, e3, e4]
theorem chg_loop {F b : Nat} (hF : 5 ≤ F) {es : List Dv} {e : Dv} {a0 s2 s10 s11 s12 s13 s14 s15 s16 s17 : Sl} : ∀ (ds : List Dv) (n k : Nat) (m : List Dv) (f : Dv) (S : Sto) (s7 s8 s9 : Sl), Cs b n k m S → n + ds.length ≤ 900 → PT 4 f → Tn f →
    ∃ (k' : Nat) (m' : List Dv) (f' : Dv) (z7 z8 z9 : Sl) (S' : Sto), forR (gN 7) (fb_law_l0 (calls (F + 1))) ds [a0, .va (.hdl b), s2, .va (.lst es), .va e, .va (.hdl k), .va f, s7, s8, s9, s10, s11, s12, s13, s14, s15, s16, s17, .no] S = .nx [a0, .va (.hdl b), s2, .va (.lst es), .va e, .va (.hdl k'), .va f', z7, z8, z9, s10, s11, s12, s13, s14, s15, s16, s17, .no] S' ∧ Cs b (n + ds.length) k' m' S' ∧ PT 4 f' ∧ Tn f'
  | [], n, k, m, f, S, s7, s8, s9, h, _, pf, tf => ⟨k, m, f, s7, s8, s9, S, rfl, h, pf, tf⟩
  | d :: ds, n, k, m, f, S, s7, s8, s9, h, hn, pf, tf => by
    simp only [List.length_cons] at hn
    obtain ⟨k1, m1, f1, y8, y9, S1, e1, h1, pf1, tf1⟩ := chg_ok hF (es := es) h (by omega) pf tf (a0 := a0) (s2 := s2) (s7 := .va d) (s8 := s8) (s9 := s9) (s10 := s10) (s11 := s11) (s12 := s12) (s13 := s13) (s14 := s14) (s15 := s15) (s16 := s16) (s17 := s17) (e := e)
    obtain ⟨k2, m2, f2, z7, z8, z9, S2, e2, h2, pf2, tf2⟩ := chg_loop hF (es := es) ds (n + 1) k1 m1 f1 S1 (.va d) y8 y9 h1 (by omega) pf1 tf1
    refine ⟨k2, m2, f2, z7, z8, z9, S2, ?_, by rw [List.length_cons, show n + (ds.length + 1) = n + 1 + ds.length by omega]; exact h2, pf2, tf2⟩
    rw [forR_nx rfl e1, e2]
theorem tC_ok {F b k : Nat} (hF : 5 ≤ F) {es m : List Dv} {e f : Dv} {S : Sto} (h : Cs b 4 k m S) (pf : PT 4 f) (tf : Tn f) {a0 s2 s7 s8 s9 s10 s11 s12 s13 s14 s15 s16 s17 : Sl} :
    ∃ (k' : Nat) (m' : List Dv) (f' : Dv) (z7 z8 z9 : Sl) (S' : Sto), tC (calls (F + 1)) [a0, .va (.hdl b), s2, .va (.lst es), .va e, .va (.hdl k), .va f, s7, s8, s9, s10, s11, s12, s13, s14, s15, s16, s17, .no] S = .nx [a0, .va (.hdl b), s2, .va (.lst es), .va e, .va (.hdl k'), .va f', z7, z8, z9, s10, s11, s12, s13, s14, s15, s16, s17, .no] S' ∧ Cs b 8 k' m' S' ∧ PT 4 f' ∧ Tn f' := by
  obtain ⟨r, S1, e1, u1, r0, r1⟩ := takeU (show 1 ≤ F + 1 by omega) h.bag (n := 3) (by omega) (by omega)
  have rg := rngR1_ok S1 r (by omega)
  obtain ⟨k', m', f', z7, z8, z9, S', e2, h2, pf2, tf2⟩ := chg_loop hF (es := es) (a0 := a0) (s2 := s2) (s10 := s10) (s11 := s11) (s12 := s12) (s13 := s13) (s14 := s14) (s15 := s15) (s16 := s16) (s17 := s17) (e := e) (rngD 0 r.toNat) 4 k m f S1 s7 s8 s9 (h.bu u1) (by rw [rngD_len]; omega) pf tf
  refine ⟨k', m', f', z7, z8, z9, S', ?_, ⟨h2.bag, h2.oth, h2.kb, by have := h2.len; rw [rngD_len] at this; omega, h2.mem⟩, pf2, tf2⟩
  clear h2 h u1
  generalize rngD 0 r.toNat = q at *
  simp -implicitDefEqProofs [tC, e1, rg, e2]
end DL
namespace DL
open PySem L2
theorem noH_lo : ∀ {n : Nat} {d : Dv}, PT n d → noH (loD d) = true
  | 0, _, h => by rw [(Lf.isi h).2.2]; exact Lf.noH h
  | n + 1, _, h => by
    rcases h with h | ⟨l, rfl, _, h⟩
    · rw [h.isi.2.2]; exact h.noH
    · show noHs (loDs l) = true
      rw [loDs_map]
      exact noHs_of fun x hx => by
        obtain ⟨y, hy, rfl⟩ := List.mem_map.mp hx
        exact noH_lo (h y hy)
theorem lo_ints (n : Nat) : loDs (rngD 0 n) = rngD 0 n := by
  rw [loDs_map]
  have : ∀ l : List Dv, (∀ x ∈ l, ∃ i : Int, x = .int i) → l.map loD = l := fun l h => by
    induction l with
    | nil => rfl
    | cons d l ih =>
      obtain ⟨i, rfl⟩ := h d (List.mem_cons_self ..)
      rw [List.map_cons, ih fun x hx => h x (List.mem_cons_of_mem _ hx)]; rfl
  exact this _ fun x hx => rng_mem hx
theorem lfD_int (i : Int) : lfD (.int i) := ⟨rfl, fun S => by simp⟩
theorem hds_ints {base u : Nat} {S : Sto} : ∀ {l : List Dv}, (∀ x ∈ l, ∃ i : Int, x = .int i) → Hds base S 0 u l l
  | [], _ => .nil
  | d :: l, h => by
    obtain ⟨i, rfl⟩ := h d (List.mem_cons_self ..)
    exact .cons (.leaf (lfD_int i)) (hds_ints fun x hx => h x (List.mem_cons_of_mem _ hx))
theorem Hd.more {base : Nat} {S : Sto} : ∀ {n m u : Nat} {d x : Dv}, Hd base S n u d x → n ≤ m → Hd base S m u d x := by
  have key : ∀ (n : Nat), (∀ {m u : Nat} {d x : Dv}, Hd base S n u d x → n ≤ m → Hd base S m u d x) ∧ ∀ {m u : Nat} {l xs : List Dv}, Hds base S n u l xs → n ≤ m → Hds base S m u l xs := by
    intro n
    induction n with
    | zero =>
      have k1 : ∀ {m u : Nat} {d x : Dv}, Hd base S 0 u d x → 0 ≤ m → Hd base S m u d x := fun h _ => by cases h with
        | leaf h => exact .leaf h
      refine ⟨k1, fun {m u l} => ?_⟩
      induction l with
      | nil => intro xs h _; cases h; exact .nil
      | cons d l ih => intro xs h hm; cases h with
        | cons h t => exact .cons (k1 h hm) (ih t hm)
    | succ n ih =>
      have k1 : ∀ {m u : Nat} {d x : Dv}, Hd base S (n + 1) u d x → n + 1 ≤ m → Hd base S m u d x := fun {m u d x} h hm => by
        obtain ⟨m, rfl⟩ : ∃ k, m = k + 1 := ⟨m - 1, by omega⟩
        cases h with
        | leaf h => exact .leaf h
        | hdl h1 h2 h3 h4 h5 => exact .hdl h1 h2 h3 h4 (ih.2 h5 (by omega))
      refine ⟨k1, fun {m u l} => ?_⟩
      induction l with
      | nil => intro xs h _; cases h; exact .nil
      | cons d l ih2 => intro xs h hm; cases h with
        | cons h t => exact .cons (k1 h hm) (ih2 t hm)
  intro n m u d x h hm
  exact (key n).1 h hm
/-- the store behind D and E: what is lent -/
structure Pv (base : Nat) (S : Sto) (p q : Nat) (d : Dv) (es : List Dv) (e : Dv) : Prop where
  hd : Hds base S 5 S.length [.hdl p, .hdl q, d] [.lst (loDs es), .lst (rngD 0 es.length), loD e]
theorem tDE_ok {F b k : Nat} (hF : 8 ≤ F) {es : List Dv} {e f : Dv} {S : Sto} (he : ∀ x ∈ es, EnD x) (hl : es.length ≤ 8) (pe : PT 4 e) {a0 s2 s7 s8 s9 s10 s11 s12 s13 s14 s15 s16 s17 : Sl} :
    ∃ (p q : Nat) (d : Dv) (T : Sto), kSeq (tE (calls (F + 1))) (tD (calls (F + 1)) [a0, .va (.hdl b), s2, .va (.lst es), .va e, .va (.hdl k), .va f, s7, s8, s9, s10, s11, s12, s13, s14, s15, s16, s17, .no] S) = .nx [a0, .va (.hdl b), s2, .va (.lst es), .va e, .va (.hdl k), .va f, s7, s8, s9, .va (.hdl p), .va (.hdl q), .va d, s13, s14, s15, s16, s17, .no] (S ++ T) ∧ Pv S.length (S ++ T) p q d es e := by
  obtain ⟨p, T1, e1, h1⟩ := li_seq (base := S.length) (n := 4) (G := F) (d := .lst es) (l := es) (S := S) (by omega) (by simp) rfl (fun x hx => li_d S.length 4 x F ((he x hx).pt.up (by omega)) (by omega)) (Nat.le_refl _)
  have rk : rngK1 (.int (es.length : Int)) (S ++ T1) = .ok (rngD 0 es.length) (S ++ T1) := by
    show (if (0 : Int) ≤ (es.length : Int) ∧ (es.length : Int) ≤ 16777216 then Res.ok (rngD 0 (es.length : Int).toNat) (S ++ T1) else .no) = _
    rw [if_pos (by omega), Int.toNat_natCast]
  obtain ⟨d, T2, e2, h2⟩ := li_d S.length 4 e (F + 1) pe (by omega) (S ++ T1 ++ [Ob.lst (rngD 0 es.length)]) (by simp only [List.length_append]; omega)
  have hq : Hd S.length (S ++ T1 ++ [Ob.lst (rngD 0 es.length)]) 1 (S ++ T1 ++ [Ob.lst (rngD 0 es.length)]).length (.hdl (S ++ T1).length) (.lst (rngD 0 es.length)) :=
    .hdl (by rw [List.length_append]; omega) (by rw [List.length_append (bs := [_])]; simp) (by simp) (by rw [rngD_len]; omega) (hds_ints fun x hx => rng_mem hx)
  refine ⟨p, (S ++ T1).length, d, T1 ++ [Ob.lst (rngD 0 es.length)] ++ T2, ?_, ⟨?_⟩⟩
  · rw [show S ++ (T1 ++ [Ob.lst (rngD 0 es.length)] ++ T2) = S ++ T1 ++ [Ob.lst (rngD 0 es.length)] ++ T2 by simp]
    clear h1 h2 hq
    generalize S ++ T1 = S1 at *
    generalize rngD 0 es.length = rg at *
    generalize S1 ++ [Ob.lst rg] ++ T2 = S3 at *
    simp -implicitDefEqProofs [tD, tE, e1, rk, e2]
  · rw [show S ++ (T1 ++ [Ob.lst (rngD 0 es.length)] ++ T2) = S ++ T1 ++ [Ob.lst (rngD 0 es.length)] ++ T2 by simp]
    have m1 := (h1.mono (S' := S ++ T1 ++ [Ob.lst (rngD 0 es.length)] ++ T2) (fun k o x => app_get _ _ (app_get _ _ x)) (u' := (S ++ T1 ++ [Ob.lst (rngD 0 es.length)] ++ T2).length) (by simp only [List.length_append]; omega)).more (m := 5) (by omega)
    have m2 := (hq.mono (S' := S ++ T1 ++ [Ob.lst (rngD 0 es.length)] ++ T2) (fun k o x => app_get _ _ x) (u' := (S ++ T1 ++ [Ob.lst (rngD 0 es.length)] ++ T2).length) (by simp only [List.length_append]; omega)).more (m := 5) (by omega)
    exact .cons m1 (.cons m2 (.cons (h2.more (by omega)) .nil))
theorem tF_ok {F b k base p q : Nat} (hF : 8 ≤ F) {es : List Dv} {e f d : Dv} {S : Sto} (h : Pv base S p q d es e) (he : ∀ x ∈ es, EnD x) (hl : es.length ≤ 8) (pe : PT 4 e) {a0 s2 s7 s8 s9 s13 s14 s15 s16 s17 : Sl} :
    tF (calls (F + 1)) [a0, .va (.hdl b), s2, .va (.lst es), .va e, .va (.hdl k), .va f, s7, s8, s9, .va (.hdl p), .va (.hdl q), .va d, s13, s14, s15, s16, s17, .no] S = .nx [a0, .va (.hdl b), s2, .va (.lst es), .va e, .va (.hdl k), .va f, s7, s8, s9, .va (.hdl p), .va (.hdl q), .va d, .va (rcD es (rngD 0 es.length) e), s14, s15, s16, s17, .no] S := by
  have ht := h.hd.thaw 30 (by omega)
  have nl : noHs es = true := noHs_of fun x hx => (he x hx).pt.noH
  have pl : pureDs es = true := pureDs_of fun x hx => (he x hx).pt.pure
  have rI : ∀ x ∈ rngD 0 es.length, ∃ i : Int, x = .int i := fun x hx => rng_mem hx
  have nr : noHs (rngD 0 es.length) = true := noHs_of fun x hx => by obtain ⟨i, rfl⟩ := rI x hx; rfl
  have pr : pureDs (rngD 0 es.length) = true := pureDs_of fun x hx => by obtain ⟨i, rfl⟩ := rI x hx; rfl
  obtain ⟨G, rfl⟩ : ∃ G, F = G + 1 := ⟨F - 1, by omega⟩
  have key := rmkL_ok (F := G + 1) (S := S) (p1 := .hdl p) (p2 := .hdl q) (p3 := d) ht (show noHs (loDs es) = true by
      rw [loDs_map]; exact noHs_of fun x hx => by obtain ⟨y, hy, rfl⟩ := List.mem_map.mp hx; exact noH_lo (he y hy).pt) nr (noH_lo pe) nl nr pe.noH pl pr pe.pure
    (fun S => at_lst (by omega) fun x hx => (at_pt 3 x G S (he x hx).pt (by omega)).2)
    (fun S => by
      have := at_lst (f := G) (S := S) (l := rngD 0 es.length) (by rw [rngD_len]; omega) fun x hx => by
        obtain ⟨i, rfl⟩ := rI x hx
        exact (at_pt 0 (.int i) G S (lf_int i) (by omega)).2
      rwa [lo_ints] at this)
    (fun S => (at_pt 4 e (G + 1) S pe (by omega)).2)
  simp -implicitDefEqProofs [tF, dl_Record_3, key]
theorem tG_ok {F b k base p q : Nat} (hF : 8 ≤ F) {es : List Dv} {e f d r : Dv} {S : Sto} (h : Pv base S p q d es e) {a0 s2 s7 s8 s9 s14 s15 s16 s17 : Sl} :
    ∃ z S', tG (calls (F + 1)) [a0, .va (.hdl b), s2, .va (.lst es), .va e, .va (.hdl k), .va f, s7, s8, s9, .va (.hdl p), .va (.hdl q), .va d, .va r, s14, s15, s16, s17, .no] S = .nx [a0, .va (.hdl b), s2, .va (.lst es), .va e, .va (.hdl k), .va f, s7, s8, s9, .va (.hdl p), .va (.hdl q), .va d, .va r, z, s15, s16, s17, .no] S' ∧ ∀ i, i < base → S'[i]? = S[i]? := by
  cases h.hd with
  | cons h1 t =>
  cases t with
  | cons h2 t =>
  cases t with
  | cons h3 t =>
  obtain ⟨S1, e1, c1⟩ := emptied_ok base 5 (F + 1) S.length (.hdl p) S (by omega) h1.em
  obtain ⟨S2, e2, c2⟩ := emptied_ok base 5 (F + 1) S.length (.hdl q) S1 (by omega) (h2.em.chg c1)
  obtain ⟨S3, e3, c3⟩ := emptied_ok base 5 (F + 1) S.length d S2 (by omega) ((h3.em.chg c1).chg c2)
  refine ⟨.va d, S3, ?_, fun i hi => ((c3.out i (.inl hi)).trans (c2.out i (.inl hi))).trans (c1.out i (.inl hi))⟩
  have l1 : ∀ x S S' (s14 : Sl), calls (F + 1) .l_emptied S [x] = .ok .non S' → fb_law_l1 (calls (F + 1)) [a0, .va (.hdl b), s2, .va (.lst es), .va e, .va (.hdl k), .va f, s7, s8, s9, .va (.hdl p), .va (.hdl q), .va d, .va r, .va x, s15, s16, s17, .no] S = .nx [a0, .va (.hdl b), s2, .va (.lst es), .va e, .va (.hdl k), .va f, s7, s8, s9, .va (.hdl p), .va (.hdl q), .va d, .va r, .va x, s15, s16, s17, .no] S' := fun x S S' s14 h => by
    simp -implicitDefEqProofs [fb_law_l1, h]
  have lp : forR (gN 14) (fb_law_l1 (calls (F + 1))) [.hdl p, .hdl q, d] [a0, .va (.hdl b), s2, .va (.lst es), .va e, .va (.hdl k), .va f, s7, s8, s9, .va (.hdl p), .va (.hdl q), .va d, .va r, s14, s15, s16, s17, .no] S = .nx [a0, .va (.hdl b), s2, .va (.lst es), .va e, .va (.hdl k), .va f, s7, s8, s9, .va (.hdl p), .va (.hdl q), .va d, .va r, .va d, s15, s16, s17, .no] S3 := by
    rw [forR_nx rfl (l1 _ _ _ s14 e1), forR_nx rfl (l1 _ _ _ s14 e2), forR_nx rfl (l1 _ _ _ s14 e3)]; rfl
  simp -implicitDefEqProofs [tG, lp]
end DL
namespace DL
open PySem L2
def itsD (m : List Dv) : List Dv := (rngD 0 m.length).map fun d => match d with
  | .int i => .int (i + 5)
  | d => d
theorem itsD_mem {m : List Dv} : ∀ x ∈ itsD m, ∃ i : Int, x = .int i := fun x hx => by
  obtain ⟨y, hy, rfl⟩ := List.mem_map.mp hx
  obtain ⟨i, rfl⟩ := rng_mem hy
  exact ⟨_, rfl⟩
theorem itsD_len (m : List Dv) : (itsD m).length = m.length := by unfold itsD; rw [List.length_map, rngD_len]
theorem at_ints {G : Nat} {l : List Dv} (hl : l.length ≤ 1000) (h : ∀ x ∈ l, ∃ i : Int, x = .int i) (S : Sto) : AtR (G + 2) S (.tup l) (.tup l) :=
  at_tup hl fun x hx => by
    obtain ⟨i, rfl⟩ := h x hx
    exact (at_pt 0 (.int i) (G + 1) S (lf_int i) (by omega)).1
theorem noHs_ints {l : List Dv} (h : ∀ x ∈ l, ∃ i : Int, x = .int i) : noHs l = true := noHs_of fun x hx => by obtain ⟨i, rfl⟩ := h x hx; rfl
theorem pure_ints {l : List Dv} (h : ∀ x ∈ l, ∃ i : Int, x = .int i) : pureDs l = true := pureDs_of fun x hx => by obtain ⟨i, rfl⟩ := h x hx; rfl
theorem thaw_n {S : Sto} {d : Dv} (h : noH d = true) : thaw 30 S d = some d := by
  unfold DL.thaw
  rw [if_pos h]
theorem tH_ok {F b k : Nat} (hF : 8 ≤ F) {es m : List Dv} {e f : Dv} {S : Sto} (h : Cs b 8 k m S) (pf : PT 4 f) {a0 s2 s7 s8 s9 s10 s11 s12 s13 s14 s15 s16 s17 : Sl} :
    tH (calls (F + 1)) [a0, .va (.hdl b), s2, .va (.lst es), .va e, .va (.hdl k), .va f, s7, s8, s9, s10, s11, s12, s13, s14, s15, s16, s17, .no] S = .nx [a0, .va (.hdl b), s2, .va (.lst es), .va e, .va (.hdl k), .va f, s7, s8, s9, s10, s11, s12, s13, s14, .va (rcD m (itsD m) f), s16, s17, .no] S := by
  have hl := h.len
  have nl : noHs m = true := noHs_of fun x hx => (h.mem x hx).pt.noH
  have pl : pureDs m = true := pureDs_of fun x hx => (h.mem x hx).pt.pure
  have rI := itsD_mem (m := m)
  have iL := itsD_len m
  obtain ⟨G, rfl⟩ : ∃ G, F = G + 2 := ⟨F - 2, by omega⟩
  have ht : thaws S [.tup m, .tup (itsD m), f] = some [.tup m, .tup (itsD m), f] := by
    unfold thaws
    rw [List.mapM_cons, List.mapM_cons, List.mapM_cons, List.mapM_nil, thaw_n (S := S) (show noH (.tup m) = true from nl), thaw_n (S := S) (show noH (.tup (itsD m)) = true from noHs_ints rI), thaw_n pf.noH]
    rfl
  have key := rmkL_ok (F := G + 2) (S := S) ht nl (noHs_ints rI) pf.noH nl (noHs_ints rI) pf.noH pl (pure_ints rI) pf.pure
    (fun S => at_tup (by omega) fun x hx => (at_pt 3 x (G + 1) S (h.mem x hx).pt (by omega)).1)
    (fun S => at_ints (by omega) rI S)
    (fun S => (at_pt 4 f (G + 2) S pf (by omega)).1)
  have ln := len_hdl h.oth
  have rg := rngR1_ok S (m.length : Int) (by omega)
  rw [Int.toNat_natCast] at rg
  have lc : ∀ E : Env, E = [a0, .va (.hdl b), s2, .va (.lst es), .va e, .va (.hdl k), .va f, s7, s8, s9, s10, s11, s12, s13, s14, s15, s16, s17, .no] → lcR (gN 18) tTrue (eBin addD (eVar 18) (eC (.int 5))) E (rngD 0 m.length) S = .ok (itsD m) S := fun E hE => by
    subst hE
    unfold itsD
    have : ∀ l : List Dv, (∀ x ∈ l, ∃ i : Int, x = .int i) → lcR (gN 18) tTrue (eBin addD (eVar 18) (eC (.int 5))) [a0, .va (.hdl b), s2, .va (.lst es), .va e, .va (.hdl k), .va f, s7, s8, s9, s10, s11, s12, s13, s14, s15, s16, s17, .no] l S = .ok (l.map fun d => match d with
        | .int i => .int (i + 5)
        | d => d) S := fun l hx => by
      induction l with
      | nil => rfl
      | cons d l ih =>
        obtain ⟨i, rfl⟩ := hx d (List.mem_cons_self ..)
        exact lcR_t (S1 := S) (S2 := S) (e1 := [a0, .va (.hdl b), s2, .va (.lst es), .va e, .va (.hdl k), .va f, s7, s8, s9, s10, s11, s12, s13, s14, s15, s16, s17, .va (.int i)]) rfl rfl (by simp -implicitDefEqProofs) (ih fun y hy => hx y (List.mem_cons_of_mem _ hy))
    exact this _ fun x hx => rng_mem hx
  have lc := lc _ rfl
  have kc := kLcEnd' (S := S) (l := itsD m) (by omega)
  have tu : tupleD S [.hdl k] = some (.tup m, S) := by simp [tupleD, asQ, asT, asL, h.oth]
  generalize itsD m = im at *
  generalize rngD 0 m.length = rg0 at *
  simp -implicitDefEqProofs [tH, dl_Record_3, ln, rg, lc, kc, tu, key]
theorem pl_ents {l : List Dv} (h : ∀ x ∈ l, EnD x) : Pl 60 (.tup l) := (pl_tup (n := 59) fun x hx => (h x hx).pt.pu (by omega))
theorem tI_ok {F b k : Nat} (hF : 8 ≤ F) {es : List Dv} {e f : Dv} {S : Sto} (he : ∀ x ∈ es, EnD x) (hl : es.length ≤ 8) (pe : PT 4 e) (te : Tn e) {a0 s2 s7 s8 s9 s10 s11 s12 s14 s15 s16 s17 : Sl} :
    tI (calls (F + 1)) [a0, .va (.hdl b), s2, .va (.lst es), .va e, .va (.hdl k), .va f, s7, s8, s9, s10, s11, s12, .va (rcD es (rngD 0 es.length) e), s14, s15, s16, s17, .no] S = .nx [a0, .va (.hdl b), s2, .va (.lst es), .va e, .va (.hdl k), .va f, s7, s8, s9, s10, s11, s12, .va (rcD es (rngD 0 es.length) e), s14, s15, s16, s17, .no] S := by
  have m1 := fun g fa env => m_ent (g := g) (fa := fa) (env := env) es (rngD 0 es.length) e S
  have m2 := fun g fa env => m_end (g := g) (fa := fa) (env := env) es (rngD 0 es.length) e S
  have m3 := fun g fa env => m_sit (g := g) (fa := fa) (env := env) es (rngD 0 es.length) e S
  have q1 := ent_ok F es (rngD 0 es.length) e S
  have q2 := end_ok F es (rngD 0 es.length) e S
  have q3 := sit_ok F es (rngD 0 es.length) e S
  have e1 := eq_tup_same S ((pl_ents he).elim fun p h => ⟨p, h.1, h.2.1, by have := h.2.2; omega⟩)
  have e2 := eq_tn pe.pl pe.pl (by omega) te te S
  rw [eqB_refl pe.pl (by omega)] at e2
  have e3 : eqD S (.tup (rngD 0 es.length)) (.tup (rngD 0 es.length)) = some true := eq_tup_same S (pl_tup (n := 63) fun x hx => by obtain ⟨i, rfl⟩ := rng_mem hx; exact pl_int _ _)
  have rk : rngKT (.int (es.length : Int)) S = .ok (.tup (rngD 0 es.length)) S := by
    have := rngKT_ok (n := (es.length : Int)) (by omega) S
    rwa [Int.toNat_natCast] at this
  generalize rcD es (rngD 0 es.length) e = r at *
  generalize rngD 0 es.length = rg at *
  simp -implicitDefEqProofs [tI, m1, m2, m3, q1, q2, q3, e1, e2, e3, rk]
theorem tJ_ok {F b k : Nat} (hF : 8 ≤ F) {es m : List Dv} {e f : Dv} {S : Sto} (h : Cs b 8 k m S) (he : ∀ x ∈ es, EnD x) (hl : es.length ≤ 8) (pe : PT 4 e) (te : Tn e) (pf : PT 4 f) (tf : Tn f) {a0 s2 s7 s8 s9 s10 s11 s12 s14 s16 s17 : Sl} :
    tJ (calls (F + 1)) [a0, .va (.hdl b), s2, .va (.lst es), .va e, .va (.hdl k), .va f, s7, s8, s9, s10, s11, s12, .va (rcD es (rngD 0 es.length) e), s14, .va (rcD m (itsD m) f), s16, s17, .no] S = .nx [a0, .va (.hdl b), s2, .va (.lst es), .va e, .va (.hdl k), .va f, s7, s8, s9, s10, s11, s12, .va (rcD es (rngD 0 es.length) e), s14, .va (rcD m (itsD m) f), s16, s17, .no] S := by
  obtain ⟨G, rfl⟩ : ∃ G, F = G + 1 := ⟨F - 1, by omega⟩
  have hm := h.mem
  have b1 : eqD S (.tup es) (.tup m) = some (eqL es m) := by
    have := eq_tn (n := 4) (pl_tup fun x hx => (he x hx).pt.pl) (pl_tup fun x hx => (hm x hx).pt.pl) (by omega) (.inr ⟨_, rfl⟩) (.inr ⟨_, rfl⟩) S
    rwa [eqB_tup (n := 3) (fun x hx => (he x hx).pt.pl) (fun x hx => (hm x hx).pt.pl)] at this
  have b2 := eq_tn pe.pl pf.pl (by omega) te tf S
  have b3 : eqD S (.lst es) (.hdl k) = some (eqL es m) := eq_hh (n := 3) h.oth (fun x hx => (he x hx).pt.pl) (fun x hx => (hm x hx).pt.pl) (by omega)
  have q1 := len_ok (G + 1) es (rngD 0 es.length) e S (by omega)
  have q2 := req_ok G (s := rngD 0 es.length) (s' := itsD m) S b1 b2
  have q3 := req_tn (G + 1) (l := es) (s := rngD 0 es.length) (e := e) S te
  generalize rcD es (rngD 0 es.length) e = r at *
  generalize rcD m (itsD m) f = r' at *
  cases h1 : eqL es m <;> cases h2 : eqB e f <;> (rw [h1] at q2 b3; rw [h2] at q2 b2; simp -implicitDefEqProofs at q2; simp -implicitDefEqProofs [tJ, q1, q2, q3, b2, b3])
theorem tK_ok {F b k : Nat} (hF : 8 ≤ F) {es m : List Dv} {e f : Dv} {S : Sto} (h : Cs b 8 k m S) (he : ∀ x ∈ es, EnD x) (hl : es.length ≤ 8) (pe : PT 4 e) (pf : PT 4 f) {a0 s2 s7 s8 s9 s10 s11 s12 s13 s14 s15 s16 s17 : Sl} :
    tK (calls (F + 1)) [a0, .va (.hdl b), s2, .va (.lst es), .va e, .va (.hdl k), .va f, s7, s8, s9, s10, s11, s12, s13, s14, s15, s16, s17, .no] S = .nx [a0, .va (.hdl b), s2, .va (.lst es), .va e, .va (.hdl k), .va f, s7, s8, s9, s10, s11, s12, s13, s14, s15, .va (dueD es m e f), s17, .no] S := by
  have hm := h.len
  have q := due_ok F (S := S) (x := .lst es) (y := .hdl k) (.inl rfl) (.inr ⟨k, rfl, h.oth⟩) he h.mem pe pf (by omega) (by omega)
  simp -implicitDefEqProofs [tK, q]
theorem due_v (l m : List Dv) (e f : Dv) : dueD l m e f = .non ∨ ∃ n : Nat, dueD l m e f = .int (n : Nat) := by
  unfold dueD
  cases dif 0 l m with
  | some j => exact .inr ⟨j, rfl⟩
  | none =>
    show tlD 0 l.length m.length e f = .non ∨ ∃ n : Nat, tlD 0 l.length m.length e f = .int (n : Nat)
    unfold tlD
    repeat' split
    all_goals first | exact .inl rfl | exact .inr ⟨_, rfl⟩
theorem tL_ok {F b k : Nat} (hF : 8 ≤ F) {es m : List Dv} {e f : Dv} {S : Sto} (h : Cs b 8 k m S) (he : ∀ x ∈ es, EnD x) (hl : es.length ≤ 8) (pe : PT 4 e) (te : Tn e) (pf : PT 4 f) (tf : Tn f) {a0 s2 s7 s8 s9 s10 s11 s12 s14 s17 : Sl} :
    tL (calls (F + 1)) [a0, .va (.hdl b), s2, .va (.lst es), .va e, .va (.hdl k), .va f, s7, s8, s9, s10, s11, s12, .va (rcD es (rngD 0 es.length) e), s14, .va (rcD m (itsD m) f), .va (dueD es m e f), s17, .no] S = .nx [a0, .va (.hdl b), s2, .va (.lst es), .va e, .va (.hdl k), .va f, s7, s8, s9, s10, s11, s12, .va (rcD es (rngD 0 es.length) e), s14, .va (rcD m (itsD m) f), .va (dueD es m e f), .va (dueD es m e f), .no] S := by
  have hm := h.len
  obtain ⟨G, rfl⟩ : ∃ G, F = G + 1 := ⟨F - 1, by omega⟩
  have q1 := parted_ok G (s := rngD 0 es.length) (t := itsD m) S he h.mem pe te pf tf (by omega) (by omega)
  have q2 := parted_ok G (s := itsD m) (t := rngD 0 es.length) S h.mem he pf tf pe te (by omega) (by omega)
  rw [due_comm] at q2
  have dv := due_v es m e f
  generalize rcD es (rngD 0 es.length) e = r at *
  generalize rcD m (itsD m) f = r' at *
  generalize dueD es m e f = D at *
  have st : ∀ z : Sl, fb_law_l2 (calls (G + 1 + 1)) [a0, .va (.hdl b), s2, .va (.lst es), .va e, .va (.hdl k), .va f, s7, s8, s9, s10, s11, s12, .va r, s14, .va r', .va D, .va D, .no] S = .nx [a0, .va (.hdl b), s2, .va (.lst es), .va e, .va (.hdl k), .va f, s7, s8, s9, s10, s11, s12, .va r, s14, .va r', .va D, .va D, .no] S := fun z => by
    rcases dv with rfl | ⟨n, rfl⟩ <;> simp -implicitDefEqProofs [fb_law_l2]
  have lp : ∀ z : Sl, forR (gN 17) (fb_law_l2 (calls (G + 1 + 1))) [D, D] [a0, .va (.hdl b), s2, .va (.lst es), .va e, .va (.hdl k), .va f, s7, s8, s9, s10, s11, s12, .va r, s14, .va r', .va D, z, .no] S = .nx [a0, .va (.hdl b), s2, .va (.lst es), .va e, .va (.hdl k), .va f, s7, s8, s9, s10, s11, s12, .va r, s14, .va r', .va D, .va D, .no] S := fun z => by
    rw [forR_nx rfl (st z), forR_nx rfl (st (.va D))]; rfl
  simp -implicitDefEqProofs [tL, q1, q2, lp]
theorem tM_ok {F b k : Nat} (hF : 8 ≤ F) {es m : List Dv} {e f : Dv} {S : Sto} (h : Cs b 8 k m S) (he : ∀ x ∈ es, EnD x) (hl : es.length ≤ 8) (pe : PT 4 e) (te : Tn e) {a0 s2 s7 s8 s9 s10 s11 s12 s14 s16 s17 : Sl} :
    tM (calls (F + 1)) [a0, .va (.hdl b), s2, .va (.lst es), .va e, .va (.hdl k), .va f, s7, s8, s9, s10, s11, s12, .va (rcD es (rngD 0 es.length) e), s14, .va (rcD m (itsD m) f), s16, s17, .no] S = .nx [a0, .va (.hdl b), s2, .va (.lst es), .va e, .va (.hdl k), .va f, s7, s8, s9, s10, s11, s12, .va (rcD es (rngD 0 es.length) e), s14, .va (rcD m (itsD m) f), s16, s17, .no] S := by
  obtain ⟨G, rfl⟩ : ∃ G, F = G + 3 := ⟨F - 3, by omega⟩
  have q1 := parted_ok (G + 2) (s := rngD 0 es.length) (t := rngD 0 es.length) S he he pe te pe te (by omega) (by omega)
  rw [due_same (n := 4) (by omega) (fun x hx => (he x hx).pt.pu (by omega)) pe.pl] at q1
  have q2 := lefts_ok G (S := S) (x := .lst es) (s := rngD 0 es.length) (e := e) (.inl rfl) hl he
  have q3 := lefts_ok G (S := S) (x := .hdl k) (s := itsD m) (e := f) (.inr ⟨k, rfl, h.oth⟩) h.len h.mem
  generalize rcD es (rngD 0 es.length) e = r at *
  generalize rcD m (itsD m) f = r' at *
  simp -implicitDefEqProofs [tM, q1, q2, q3]
end DL
namespace DL
open PySem L2
def Slots (a0 : Sl) (b : Nat) (E : Env) : Prop := ∃ s2 s3 s4 s5 s6 s7 s8 s9 s10 s11 s12 s13 s14 s15 s16 s17 : Sl, E = [a0, .va (.hdl b), s2, s3, s4, s5, s6, s7, s8, s9, s10, s11, s12, s13, s14, s15, s16, s17, .no]
theorem turn_ok {F b : Nat} (hF : 8 ≤ F) {S : Sto} (hB : BagAt S b) {a0 : Sl} {E : Env} (hE : Slots a0 b E) : ∃ E' S', fb_law_l3 (calls (F + 1)) E S = .nx E' S' ∧ BagAt S' b ∧ Slots a0 b E' := by
  obtain ⟨s2, s3, s4, s5, s6, s7, s8, s9, s10, s11, s12, s13, s14, s15, s16, s17, rfl⟩ := hE
  obtain ⟨es, e, S1, eA, B1, hl, he, pe, te⟩ := tA_ok (F := F) (by omega) hB (a0 := a0) (s2 := s2) (s3 := s3) (s4 := s4) (s5 := s5) (s6 := s6) (s7 := s7) (s8 := s8) (s9 := s9) (s10 := s10) (s11 := s11) (s12 := s12) (s13 := s13) (s14 := s14) (s15 := s15) (s16 := s16) (s17 := s17)
  have eB := tB_ok (F := F + 1) (b := b) (e := e) (es := es) (S := S1) (a0 := a0) (s2 := s2) (s5 := s5) (s6 := s6) (s7 := s7) (s8 := s8) (s9 := s9) (s10 := s10) (s11 := s11) (s12 := s12) (s13 := s13) (s14 := s14) (s15 := s15) (s16 := s16) (s17 := s17)
  have c0 : Cs b 4 S1.length es (S1 ++ [.lst es]) := by
    have hn := new_ne B1
    obtain ⟨o, ho, hk⟩ := B1
    exact ⟨⟨o, app_get _ _ ho, hk⟩, by simp, hn.symm, hl, he⟩
  obtain ⟨k, m, f, z7, z8, z9, S2, eC, c1, pf, tf⟩ := tC_ok (F := F) (by omega) (es := es) (e := e) c0 pe te (a0 := a0) (s2 := s2) (s7 := s7) (s8 := s8) (s9 := s9) (s10 := s10) (s11 := s11) (s12 := s12) (s13 := s13) (s14 := s14) (s15 := s15) (s16 := s16) (s17 := s17)
  obtain ⟨p, q, d, T, eDE, pv⟩ := tDE_ok (F := F) hF (b := b) (k := k) (f := f) (S := S2) he (by omega) pe (a0 := a0) (s2 := s2) (s7 := z7) (s8 := z8) (s9 := z9) (s10 := s10) (s11 := s11) (s12 := s12) (s13 := s13) (s14 := s14) (s15 := s15) (s16 := s16) (s17 := s17)
  have eF := tF_ok (F := F) (b := b) (k := k) (f := f) hF pv he (by omega) pe (a0 := a0) (s2 := s2) (s7 := z7) (s8 := z8) (s9 := z9) (s13 := s13) (s14 := s14) (s15 := s15) (s16 := s16) (s17 := s17)
  obtain ⟨z14, S3, eG, hk⟩ := tG_ok (F := F) (b := b) (k := k) (f := f) (r := rcD es (rngD 0 es.length) e) hF pv (a0 := a0) (s2 := s2) (s7 := z7) (s8 := z8) (s9 := z9) (s14 := s14) (s15 := s15) (s16 := s16) (s17 := s17)
  have get3 : ∀ i o, S2[i]? = some o → S3[i]? = some o := fun i o h => by
    rw [hk i (List.getElem?_eq_some_iff.mp h).1]; exact app_get _ _ h
  have c3 : Cs b 8 k m S3 := by
    obtain ⟨⟨o, ho, hb⟩, h2, h3, h4, h5⟩ := c1
    exact ⟨⟨o, get3 _ _ ho, hb⟩, get3 _ _ h2, h3, h4, h5⟩
  have eH := tH_ok (F := F) hF (es := es) (e := e) c3 pf (a0 := a0) (s2 := s2) (s7 := z7) (s8 := z8) (s9 := z9) (s10 := .va (.hdl p)) (s11 := .va (.hdl q)) (s12 := .va d) (s13 := .va (rcD es (rngD 0 es.length) e)) (s14 := z14) (s15 := s15) (s16 := s16) (s17 := s17)
  have eI := tI_ok (F := F) (b := b) (k := k) (f := f) (S := S3) hF he (by omega) pe te (a0 := a0) (s2 := s2) (s7 := z7) (s8 := z8) (s9 := z9) (s10 := .va (.hdl p)) (s11 := .va (.hdl q)) (s12 := .va d) (s14 := z14) (s15 := .va (rcD m (itsD m) f)) (s16 := s16) (s17 := s17)
  have eJ := tJ_ok (F := F) hF c3 he (by omega) pe te pf tf (a0 := a0) (s2 := s2) (s7 := z7) (s8 := z8) (s9 := z9) (s10 := .va (.hdl p)) (s11 := .va (.hdl q)) (s12 := .va d) (s14 := z14) (s16 := s16) (s17 := s17)
  have eK := tK_ok (F := F) hF c3 he (by omega) pe pf (a0 := a0) (s2 := s2) (s7 := z7) (s8 := z8) (s9 := z9) (s10 := .va (.hdl p)) (s11 := .va (.hdl q)) (s12 := .va d) (s13 := .va (rcD es (rngD 0 es.length) e)) (s14 := z14) (s15 := .va (rcD m (itsD m) f)) (s16 := s16) (s17 := s17)
  have eL := tL_ok (F := F) hF c3 he (by omega) pe te pf tf (a0 := a0) (s2 := s2) (s7 := z7) (s8 := z8) (s9 := z9) (s10 := .va (.hdl p)) (s11 := .va (.hdl q)) (s12 := .va d) (s14 := z14) (s17 := s17)
  have eM := tM_ok (F := F) (f := f) hF c3 he (by omega) pe te (a0 := a0) (s2 := s2) (s7 := z7) (s8 := z8) (s9 := z9) (s10 := .va (.hdl p)) (s11 := .va (.hdl q)) (s12 := .va d) (s14 := z14) (s16 := .va (dueD es m e f)) (s17 := .va (dueD es m e f))
  refine ⟨_, S3, ?_, c3.bag, s2, .va (.lst es), .va e, .va (.hdl k), .va f, z7, z8, z9, .va (.hdl p), .va (.hdl q), .va d, .va (rcD es (rngD 0 es.length) e), z14, .va (rcD m (itsD m) f), .va (dueD es m e f), .va (dueD es m e f), rfl⟩
  rw [fb_law_l3_eq, ev_seq, eA, kSeq_nx, ev_seq, eB, kSeq_nx, ev_seq, eC, kSeq_nx, ev_seq]
  have seqA : ∀ (A B : DS) (o : Out), kSeq (sSeq A B) o = kSeq B (kSeq A o) := fun A B o => by
    cases o <;> first | rfl | (show sSeq A B _ _ = _; rw [ev_seq]; rfl)
  rw [seqA, eDE, kSeq_nx, ev_seq, eF, kSeq_nx, ev_seq, eG, kSeq_nx, ev_seq, eH, kSeq_nx, ev_seq, eI, kSeq_nx, ev_seq, eJ, kSeq_nx, ev_seq, eK, kSeq_nx, ev_seq, eL, kSeq_nx, eM]
theorem law_loop {F b : Nat} (hF : 8 ≤ F) {a0 : Sl} : ∀ (ds : List Dv) (E : Env) (S : Sto), BagAt S b → Slots a0 b E → ∃ E' S', forR (gN 2) (fb_law_l3 (calls (F + 1))) ds E S = .nx E' S' ∧ Slots a0 b E'
  | [], E, S, _, hE => ⟨E, S, rfl, hE⟩
  | d :: ds, E, S, hB, hE => by
    obtain ⟨s2, s3, s4, s5, s6, s7, s8, s9, s10, s11, s12, s13, s14, s15, s16, s17, rfl⟩ := hE
    obtain ⟨E1, S1, e1, b1, h1⟩ := turn_ok hF hB (a0 := a0) (E := [a0, .va (.hdl b), .va d, s3, s4, s5, s6, s7, s8, s9, s10, s11, s12, s13, s14, s15, s16, s17, .no]) ⟨.va d, s3, s4, s5, s6, s7, s8, s9, s10, s11, s12, s13, s14, s15, s16, s17, rfl⟩
    obtain ⟨E2, S2, e2, h2⟩ := law_loop hF ds E1 S1 b1 h1
    exact ⟨E2, S2, by rw [forR_nx rfl e1, e2], h2⟩
theorem law_true (ns : List Int) (hn : ns.length ≤ 63) : ∃ S, calls (40 + 1) .law [] [.rol (ns.map .int)] = .ok (.bl true) S := by
  obtain ⟨o, e0, ho⟩ := bag_ok 39 [] ns hn
  have hB : BagAt ([] ++ [o]) 0 := ⟨o, rfl, ho⟩
  obtain ⟨E', S', e1, s2, s3, s4, s5, s6, s7, s8, s9, s10, s11, s12, s13, s14, s15, s16, s17, rfl⟩ := law_loop (F := 39) (b := 0) (by omega) (a0 := .va (.rol (ns.map .int))) (rngD 0 6) [.va (.rol (ns.map .int)), .va (.hdl 0), .no, .no, .no, .no, .no, .no, .no, .no, .no, .no, .no, .no, .no, .no, .no, .no, .no] ([] ++ [o]) hB ⟨.no, .no, .no, .no, .no, .no, .no, .no, .no, .no, .no, .no, .no, .no, .no, .no, rfl⟩
  refine ⟨S', ?_⟩
  have rg := rngR1_ok ([] ++ [o]) 6 (by omega)
  rw [show (6 : Int).toNat = 6 from rfl] at rg
  clear hB ho
  rw [show ([] : Sto).length = 0 from rfl] at e0
  generalize ([] : Sto) ++ [o] = S1 at *
  generalize Dv.rol (ns.map .int) = d at *
  generalize rngD 0 6 = r6 at *
  simp -implicitDefEqProofs [ev_law, fb_law, e0, rg, e1]
end DL
namespace Row
open PySem L2 DL
structure Tx (K : PySem.W.Frag) (w : World) (mg : Str → Option Value) : Prop where
  f_abs : mg "abs" = none
  f_bool : mg "bool" = none
  f_enumerate : mg "enumerate" = none
  f_int : mg "int" = none
  f_isinstance : mg "isinstance" = none
  f_len : mg "len" = none
  f_list : mg "list" = none
  f_min : mg "min" = none
  f_range : mg "range" = none
  f_repr : mg "repr" = none
  f_tuple : mg "tuple" = none
  f_zip : mg "zip" = none
  g_l_bag : mg "_law_bag" = some (.ref (He.ga K "_law_bag"))
  g_as_tuples : mg "as_tuples" = some (.ref (He.ga K "as_tuples"))
  g_l_lists : mg "_law_lists" = some (.ref (He.ga K "_law_lists"))
  g_l_due : mg "_law_due" = some (.ref (He.ga K "_law_due"))
  g_l_take : mg "_law_take" = some (.ref (He.ga K "_law_take"))
  g_l_one : mg "_law_one" = some (.ref (He.ga K "_law_one"))
  g_l_entry : mg "_law_entry" = some (.ref (He.ga K "_law_entry"))
  g_l_end : mg "_law_end" = some (.ref (He.ga K "_law_end"))
  g_l_emptied : mg "_law_emptied" = some (.ref (He.ga K "_law_emptied"))
  g_parted_at : mg "parted_at" = some (.ref (He.ga K "parted_at"))
  g_l_left : mg "_law_left" = some (.ref (He.ga K "_law_left"))
  g_l_lefts_hold : mg "_law_lefts_hold" = some (.ref (He.ga K "_law_lefts_hold"))
  g_law : mg "law" = some (.ref (He.ga K "law"))
  g_FoundError : mg "FoundError" = some (.ref (He.ga K "FoundError"))
  g_NoFailing : mg "NoFailing" = some (.ref (He.ga K "NoFailing"))
  g_Record : mg "Record" = some (.ref (He.ga K "Record"))
  k_Record : Cls K (He.ga K "Record")
  mk_Record : Mk K (He.ga K "Record") (He.ma K (He.ga K "Record") "__init__")
  na_Record_told : NoAttr K (He.ga K "Record") "told"
  iso_Record : IsO K "Record" su_Record
  eq_Record : EqF K (He.ga K "Record")
  fe_FoundError : FeF K (He.ga K "FoundError")
  xc_NoFailing : XcF K (He.ga K "NoFailing") (He.ma K (He.ga K "NoFailing") "__init__") ["index"]
  xt : XcT K xtab
  ext_NoFailing : ExT K (.ref (He.ga K "NoFailing")) ext_NoFailing
  m_Record_len : Meth K (He.ga K "Record") "__len__" (He.ma K (He.ga K "Record") "__len__")
  m_Record_entries : Meth K (He.ga K "Record") "entries" (He.ma K (He.ga K "Record") "entries")
  m_Record_end : Meth K (He.ga K "Record") "end" (He.ma K (He.ga K "Record") "end")
  m_Record_eq : Meth K (He.ga K "Record") "__eq__" (He.ma K (He.ga K "Record") "__eq__")
  m_Record_sites : Meth K (He.ga K "Record") "sites" (He.ma K (He.ga K "Record") "sites")
  m_Record_left : Meth K (He.ga K "Record") "left" (He.ma K (He.ga K "Record") "left")
  d_Record_len : ∃ fd, FunD K "__len__" "Record.__len__" (defArgs st_Record_len) (defBody st_Record_len) (defScope st_Record_len) [] [] (He.ma K (He.ga K "Record") "__len__") fd
  d_l_bag : ∃ fd, FunD K "_law_bag" "_law_bag" (defArgs st_l_bag) (defBody st_l_bag) (defScope st_l_bag) [] [] (He.ga K "_law_bag") fd
  d_as_tuples : ∃ fd, FunD K "as_tuples" "as_tuples" (defArgs st_as_tuples) (defBody st_as_tuples) (defScope st_as_tuples) [] [] (He.ga K "as_tuples") fd
  d_Record_init : ∃ fd, FunD K "__init__" "Record.__init__" (defArgs st_Record_init) (defBody st_Record_init) (defScope st_Record_init) [] [] (He.ma K (He.ga K "Record") "__init__") fd
  d_l_lists : ∃ fd, FunD K "_law_lists" "_law_lists" (defArgs st_l_lists) (defBody st_l_lists) (defScope st_l_lists) [] [] (He.ga K "_law_lists") fd
  d_Record_entries : ∃ fd, FunD K "entries" "Record.entries" (defArgs st_Record_entries) (defBody st_Record_entries) (defScope st_Record_entries) [] [] (He.ma K (He.ga K "Record") "entries") fd
  d_Record_end : ∃ fd, FunD K "end" "Record.end" (defArgs st_Record_end) (defBody st_Record_end) (defScope st_Record_end) [] [] (He.ma K (He.ga K "Record") "end") fd
  d_Record_eq : ∃ fd, FunD K "__eq__" "Record.__eq__" (defArgs st_Record_eq) (defBody st_Record_eq) (defScope st_Record_eq) [] [] (He.ma K (He.ga K "Record") "__eq__") fd
  d_l_due : ∃ fd, FunD K "_law_due" "_law_due" (defArgs st_l_due) (defBody st_l_due) (defScope st_l_due) [] [] (He.ga K "_law_due") fd
  d_l_take : ∃ fd, FunD K "_law_take" "_law_take" (defArgs st_l_take) (defBody st_l_take) (defScope st_l_take) [] [] (He.ga K "_law_take") fd
  d_l_one : ∃ fd, FunD K "_law_one" "_law_one" (defArgs st_l_one) (defBody st_l_one) (defScope st_l_one) [] [] (He.ga K "_law_one") fd
  d_l_entry : ∃ fd, FunD K "_law_entry" "_law_entry" (defArgs st_l_entry) (defBody st_l_entry) (defScope st_l_entry) [] [] (He.ga K "_law_entry") fd
  d_l_end : ∃ fd, FunD K "_law_end" "_law_end" (defArgs st_l_end) (defBody st_l_end) (defScope st_l_end) [] [] (He.ga K "_law_end") fd
  d_l_emptied : ∃ fd, FunD K "_law_emptied" "_law_emptied" (defArgs st_l_emptied) (defBody st_l_emptied) (defScope st_l_emptied) [] [] (He.ga K "_law_emptied") fd
  d_Record_sites : ∃ fd, FunD K "sites" "Record.sites" (defArgs st_Record_sites) (defBody st_Record_sites) (defScope st_Record_sites) [] [] (He.ma K (He.ga K "Record") "sites") fd
  d_parted_at : ∃ fd, FunD K "parted_at" "parted_at" (defArgs st_parted_at) (defBody st_parted_at) (defScope st_parted_at) [] [] (He.ga K "parted_at") fd
  d_NoFailing_init : ∃ fd, FunD K "__init__" "NoFailing.__init__" (defArgs st_NoFailing_init) (defBody st_NoFailing_init) (defScope st_NoFailing_init) [] [] (He.ma K (He.ga K "NoFailing") "__init__") fd
  d_Record_left : ∃ fd, FunD K "left" "Record.left" (defArgs st_Record_left) (defBody st_Record_left) (defScope st_Record_left) [] [] (He.ma K (He.ga K "Record") "left") fd
  d_l_left : ∃ fd, FunD K "_law_left" "_law_left" (defArgs st_l_left) (defBody st_l_left) (defScope st_l_left) [] [] (He.ga K "_law_left") fd
  d_l_lefts_hold : ∃ fd, FunD K "_law_lefts_hold" "_law_lefts_hold" (defArgs st_l_lefts_hold) (defBody st_l_lefts_hold) (defScope st_l_lefts_hold) [] [] (He.ga K "_law_lefts_hold") fd
  d_law : ∃ fd, FunD K "law" "law" (defArgs st_law) (defBody st_law) (defScope st_law) [] [] (He.ga K "law") fd
def Fn.ok (P : Program) (w : World) (K : Kw) (mg : Str → Option Value) (base : Heap) (k : Nat) : Fn → DF → Prop
  | .Record_len, g => FM P K.w K mg base k "Record" "__len__" [] g
  | .l_bag, g => FD P K.w K mg base k "_law_bag" g
  | .as_tuples, g => FD P K.w K mg base k "as_tuples" g
  | .Record_init, g => FI P K.w K mg base k "Record" (InB "Record.__init__" st_Record_init ["self", "entries", "sites", "end"] (fun K => []) (fun K => [])) g
  | .l_lists, g => FD P K.w K mg base k "_law_lists" g
  | .Record_entries, g => FM P K.w K mg base k "Record" "entries" [] g
  | .Record_end, g => FM P K.w K mg base k "Record" "end" [] g
  | .Record_eq, g => FM P K.w K mg base k "Record" "__eq__" [] g
  | .l_due, g => FD P K.w K mg base k "_law_due" g
  | .l_take, g => FD P K.w K mg base k "_law_take" g
  | .l_one, g => FD P K.w K mg base k "_law_one" g
  | .l_entry, g => FD P K.w K mg base k "_law_entry" g
  | .l_end, g => FD P K.w K mg base k "_law_end" g
  | .l_emptied, g => FD P K.w K mg base k "_law_emptied" g
  | .Record_sites, g => FM P K.w K mg base k "Record" "sites" [] g
  | .parted_at, g => FD P K.w K mg base k "parted_at" g
  | .NoFailing_init, g => FX P K.w K mg base k "NoFailing" ["index"] g
  | .Record_left, g => FM P K.w K mg base k "Record" "left" [] g
  | .l_left, g => FD P K.w K mg base k "_law_left" g
  | .l_lefts_hold, g => FD P K.w K mg base k "_law_lefts_hold" g
  | .law, g => FD P K.w K mg base k "law" g
def OkC (P : Program) (w : World) (K : Kw) (mg : Str → Option Value) (base : Heap) (k : Nat) (c : Fn → DF) : Prop := ∀ f, Fn.ok P w K mg base k f (c f)
theorem okf_Record_len {P : Program} {K : Kw} {mg : Str → Option Value} {base : Heap} {k : Nat} {c : Fn → DF} (ih : OkC P K.w K mg base k c) : FM P K.w K mg base k "Record" "__len__" [] (c .Record_len) := ih .Record_len
theorem okf_l_bag {P : Program} {K : Kw} {mg : Str → Option Value} {base : Heap} {k : Nat} {c : Fn → DF} (ih : OkC P K.w K mg base k c) : FD P K.w K mg base k "_law_bag" (c .l_bag) := ih .l_bag
theorem okf_as_tuples {P : Program} {K : Kw} {mg : Str → Option Value} {base : Heap} {k : Nat} {c : Fn → DF} (ih : OkC P K.w K mg base k c) : FD P K.w K mg base k "as_tuples" (c .as_tuples) := ih .as_tuples
theorem okf_Record_init {P : Program} {K : Kw} {mg : Str → Option Value} {base : Heap} {k : Nat} {c : Fn → DF} (ih : OkC P K.w K mg base k c) : FI P K.w K mg base k "Record" (InB "Record.__init__" st_Record_init ["self", "entries", "sites", "end"] (fun K => []) (fun K => [])) (c .Record_init) := ih .Record_init
theorem okf_l_lists {P : Program} {K : Kw} {mg : Str → Option Value} {base : Heap} {k : Nat} {c : Fn → DF} (ih : OkC P K.w K mg base k c) : FD P K.w K mg base k "_law_lists" (c .l_lists) := ih .l_lists
theorem okf_Record_entries {P : Program} {K : Kw} {mg : Str → Option Value} {base : Heap} {k : Nat} {c : Fn → DF} (ih : OkC P K.w K mg base k c) : FM P K.w K mg base k "Record" "entries" [] (c .Record_entries) := ih .Record_entries
theorem okf_Record_end {P : Program} {K : Kw} {mg : Str → Option Value} {base : Heap} {k : Nat} {c : Fn → DF} (ih : OkC P K.w K mg base k c) : FM P K.w K mg base k "Record" "end" [] (c .Record_end) := ih .Record_end
theorem okf_Record_eq {P : Program} {K : Kw} {mg : Str → Option Value} {base : Heap} {k : Nat} {c : Fn → DF} (ih : OkC P K.w K mg base k c) : FM P K.w K mg base k "Record" "__eq__" [] (c .Record_eq) := ih .Record_eq
theorem okf_l_due {P : Program} {K : Kw} {mg : Str → Option Value} {base : Heap} {k : Nat} {c : Fn → DF} (ih : OkC P K.w K mg base k c) : FD P K.w K mg base k "_law_due" (c .l_due) := ih .l_due
theorem okf_l_take {P : Program} {K : Kw} {mg : Str → Option Value} {base : Heap} {k : Nat} {c : Fn → DF} (ih : OkC P K.w K mg base k c) : FD P K.w K mg base k "_law_take" (c .l_take) := ih .l_take
theorem okf_l_one {P : Program} {K : Kw} {mg : Str → Option Value} {base : Heap} {k : Nat} {c : Fn → DF} (ih : OkC P K.w K mg base k c) : FD P K.w K mg base k "_law_one" (c .l_one) := ih .l_one
theorem okf_l_entry {P : Program} {K : Kw} {mg : Str → Option Value} {base : Heap} {k : Nat} {c : Fn → DF} (ih : OkC P K.w K mg base k c) : FD P K.w K mg base k "_law_entry" (c .l_entry) := ih .l_entry
theorem okf_l_end {P : Program} {K : Kw} {mg : Str → Option Value} {base : Heap} {k : Nat} {c : Fn → DF} (ih : OkC P K.w K mg base k c) : FD P K.w K mg base k "_law_end" (c .l_end) := ih .l_end
theorem okf_l_emptied {P : Program} {K : Kw} {mg : Str → Option Value} {base : Heap} {k : Nat} {c : Fn → DF} (ih : OkC P K.w K mg base k c) : FD P K.w K mg base k "_law_emptied" (c .l_emptied) := ih .l_emptied
theorem okf_Record_sites {P : Program} {K : Kw} {mg : Str → Option Value} {base : Heap} {k : Nat} {c : Fn → DF} (ih : OkC P K.w K mg base k c) : FM P K.w K mg base k "Record" "sites" [] (c .Record_sites) := ih .Record_sites
theorem okf_parted_at {P : Program} {K : Kw} {mg : Str → Option Value} {base : Heap} {k : Nat} {c : Fn → DF} (ih : OkC P K.w K mg base k c) : FD P K.w K mg base k "parted_at" (c .parted_at) := ih .parted_at
theorem okf_NoFailing_init {P : Program} {K : Kw} {mg : Str → Option Value} {base : Heap} {k : Nat} {c : Fn → DF} (ih : OkC P K.w K mg base k c) : FX P K.w K mg base k "NoFailing" ["index"] (c .NoFailing_init) := ih .NoFailing_init
theorem okf_Record_left {P : Program} {K : Kw} {mg : Str → Option Value} {base : Heap} {k : Nat} {c : Fn → DF} (ih : OkC P K.w K mg base k c) : FM P K.w K mg base k "Record" "left" [] (c .Record_left) := ih .Record_left
theorem okf_l_left {P : Program} {K : Kw} {mg : Str → Option Value} {base : Heap} {k : Nat} {c : Fn → DF} (ih : OkC P K.w K mg base k c) : FD P K.w K mg base k "_law_left" (c .l_left) := ih .l_left
theorem okf_l_lefts_hold {P : Program} {K : Kw} {mg : Str → Option Value} {base : Heap} {k : Nat} {c : Fn → DF} (ih : OkC P K.w K mg base k c) : FD P K.w K mg base k "_law_lefts_hold" (c .l_lefts_hold) := ih .l_lefts_hold
theorem pb_Record_3 (K : Kw) : PoB K (InB "Record.__init__" st_Record_init ["self", "entries", "sites", "end"] (fun K => []) (fun K => [])) dl_Record_3 := pob0 bi_Record_init
section
variable {P : Program} {K : Kw} {mg : Str → Option Value} {base : Heap} {k : Nat} {c : Fn → DF}
theorem fd_Record_len (T : Tx K K.w mg) (hs : SysB base) (ih : OkC P K.w K mg base k c) : FM P K.w K mg base (k + 2) "Record" "__len__" [] (g_Record_len c) :=
  fm_mk T.d_Record_len T.k_Record T.m_Record_len sc_Record_len bi_Record_len rfl rfl fun cdv A up s H E hr tk pw =>
    (qss_one (qs_ret (qe_callB call_len cas_len T.f_len (by decide +kernel) (qxs_cons (qx (qe_ix (qx (qe_fld ⟨T.k_Record, T.na_Record_told⟩ (qe_var 0))) (qx qe_int))) qxs_nil))))
theorem fd_l_bag (T : Tx K K.w mg) (hs : SysB base) (ih : OkC P K.w K mg base k c) : FD P K.w K mg base (k + 2) "_law_bag" (g_l_bag c) :=
  fd_mk T.d_l_bag T.g_l_bag sc_l_bag bi_l_bag rfl rfl fun cdv A up s H E hr tk pw =>
    (qss_one (qs_ret (qe_new (qf_lst (qa_cons qe_int (qa_cons qe_int (qa_cons qe_int (qa_cons (qe_frz (qf_lc (own := [("_law_cell", 1)]) rfl sc_l_bag.nd (qi_seq (qe_cut (qx (qe_var 0)) qo_none (qo_some qe_int))) (blkOk_by (own := [("_law_cell", 1)]) (N := ["_law_script", "_law_cell"]) (sc := defScope st_l_bag) (by decide +kernel)) (fun _ _ _ _ _ => (qg_name sc_l_bag.nd 1)) (fun _ _ _ _ _ => qts_nil) (fun _ _ _ _ _ => (qe_callB call_abs cas_abs T.f_abs (by decide +kernel) (qxs_cons (qx (qe_var 1)) qxs_nil))))) qa_nil))))))))
theorem fd_as_tuples (T : Tx K K.w mg) (hs : SysB base) (ih : OkC P K.w K mg base k c) : FD P K.w K mg base (k + 2) "as_tuples" (g_as_tuples c) :=
  fd_mk T.d_as_tuples T.g_as_tuples sc_as_tuples bi_as_tuples rfl rfl fun cdv A up s H E hr tk pw =>
    (qss_cons (qs_if (qt_tru (qx (qe_callB call_isiA cas_isi T.f_isinstance (by decide +kernel) (qxs_cons (qx (qe_var 0)) (qxs_cons (qx (qe_tup (qa_cons (qe_ty T.f_tuple (by decide +kernel)) (qa_cons (qe_ty T.f_list (by decide +kernel)) qa_nil)))) qxs_nil))))) (qss_one (qs_ret (qe_callTy call_tuple_of cas_tuple T.f_tuple (by decide +kernel) (qxs_cons (qx (qe_frz (qf_lc (own := [("member", 1)]) rfl sc_as_tuples.nd (qi_seq (qe_var 0)) (blkOk_by (own := [("member", 1)]) (N := ["thing", "member"]) (sc := defScope st_as_tuples) (by decide +kernel)) (fun _ _ _ _ _ => (qg_name sc_as_tuples.nd 1)) (fun _ _ _ _ _ => qts_nil) (fun _ _ _ _ _ => (qe_call (okf_as_tuples ih) hr takesW0 (qa_cons (qe_var 1) qa_nil)))))) qxs_nil)))) qss_nil) (qss_one (qs_ret (qe_var 0))))
theorem fd_Record_init (T : Tx K K.w mg) (hs : SysB base) (ih : OkC P K.w K mg base k c) : FI P K.w K mg base (k + 2) "Record" (InB "Record.__init__" st_Record_init ["self", "entries", "sites", "end"] (fun K => []) (fun K => [])) (g_Record_init c) :=
  fi_mk T.d_Record_init T.g_Record T.mk_Record sc_Record_init rfl rfl fun cdv A up s H E hr tk pw =>
    (qss_one (qs_fld ⟨T.k_Record, T.na_Record_told⟩ (qe_var 0) (qe_tup (qa_cons (qe_call (okf_as_tuples ih) hr tk (qa_cons (qe_var 1) qa_nil)) (qa_cons (qe_call (okf_as_tuples ih) hr tk (qa_cons (qe_var 2) qa_nil)) (qa_cons (qe_call (okf_as_tuples ih) hr tk (qa_cons (qe_var 3) qa_nil)) qa_nil))))))
theorem fd_l_lists (T : Tx K K.w mg) (hs : SysB base) (ih : OkC P K.w K mg base k c) : FD P K.w K mg base (k + 2) "_law_lists" (g_l_lists c) :=
  fd_mk T.d_l_lists T.g_l_lists sc_l_lists bi_l_lists rfl rfl fun cdv A up s H E hr tk pw =>
    (qss_cons (qs_if (qt_not (qt_tru (qx (qe_callB call_isiA cas_isi T.f_isinstance (by decide +kernel) (qxs_cons (qx (qe_var 0)) (qxs_cons (qx (qe_tup (qa_cons (qe_ty T.f_tuple (by decide +kernel)) (qa_cons (qe_ty T.f_list (by decide +kernel)) qa_nil)))) qxs_nil)))))) (qss_one (qs_ret (qe_var 0))) qss_nil) (qss_one (qs_ret (qe_new (qf_lc (own := [("_law_part", 1)]) rfl sc_l_lists.nd (qi_seq (qe_var 0)) (blkOk_by (own := [("_law_part", 1)]) (N := ["_law_thing", "_law_part"]) (sc := defScope st_l_lists) (by decide +kernel)) (fun _ _ _ _ _ => (qg_name sc_l_lists.nd 1)) (fun _ _ _ _ _ => qts_nil) (fun _ _ _ _ _ => (qe_call (okf_l_lists ih) hr takesW0 (qa_cons (qe_var 1) qa_nil))))))))
theorem fd_Record_entries (T : Tx K K.w mg) (hs : SysB base) (ih : OkC P K.w K mg base k c) : FM P K.w K mg base (k + 2) "Record" "entries" [] (g_Record_entries c) :=
  fm_mk T.d_Record_entries T.k_Record T.m_Record_entries sc_Record_entries bi_Record_entries rfl rfl fun cdv A up s H E hr tk pw =>
    (qss_one (qs_ret (qe_ix (qx (qe_fld ⟨T.k_Record, T.na_Record_told⟩ (qe_var 0))) (qx qe_int))))
theorem fd_Record_end (T : Tx K K.w mg) (hs : SysB base) (ih : OkC P K.w K mg base k c) : FM P K.w K mg base (k + 2) "Record" "end" [] (g_Record_end c) :=
  fm_mk T.d_Record_end T.k_Record T.m_Record_end sc_Record_end bi_Record_end rfl rfl fun cdv A up s H E hr tk pw =>
    (qss_one (qs_ret (qe_ix (qx (qe_fld ⟨T.k_Record, T.na_Record_told⟩ (qe_var 0))) (qx qe_int))))
theorem fd_Record_eq (T : Tx K K.w mg) (hs : SysB base) (ih : OkC P K.w K mg base k c) : FM P K.w K mg base (k + 2) "Record" "__eq__" [] (g_Record_eq c) :=
  fm_mk T.d_Record_eq T.k_Record T.m_Record_eq sc_Record_eq bi_Record_eq rfl rfl fun cdv A up s H E hr tk pw =>
    (qss_one (qs_ret (qe_and (qe_callB call_isi (cas_iso T.iso_Record) T.f_isinstance (by decide +kernel) (qxs_cons (qx (qe_var 1)) (qxs_cons (qx (qe_glo T.g_Record)) qxs_nil))) (qe_and (qe_eq hr.r (qx (qe_ix (qx (qe_fld ⟨T.k_Record, T.na_Record_told⟩ (qe_var 0))) (qx qe_int))) (qx (qe_meth0 (okf_Record_entries ih) hr tk (qe_var 1)))) (qe_one (qe_eq hr.r (qx (qe_ix (qx (qe_fld ⟨T.k_Record, T.na_Record_told⟩ (qe_var 0))) (qx qe_int))) (qx (qe_meth0 (okf_Record_end ih) hr tk (qe_var 1)))))))))
theorem fd_l_due (T : Tx K K.w mg) (hs : SysB base) (ih : OkC P K.w K mg base k c) : FD P K.w K mg base (k + 2) "_law_due" (g_l_due c) :=
  fd_mk T.d_l_due T.g_l_due sc_l_due bi_l_due rfl rfl fun cdv A up s H E hr tk pw =>
    (qss_cons (qs_ownN sc_l_due.nd 2 (qn_f (qf_lst qa_nil))) (qss_cons (qs_for pw rfl (qi_seq (qe_tup (qa_cons (qe_var 0) (qa_cons (qe_var 1) qa_nil)))) (qg_tup rfl (qgs_cons (qg_name sc_l_due.nd 3) (qgs_cons (qg_name sc_l_due.nd 4) qgs_nil))) (qss_one (qs_ownM 2 PySem.F.slot_list_append PySem.F.type_list_append mt_append owns_app (qa_cons (qe_if (qt_isnot (qx (qe_var 4)) (qx qe_non)) (qe_add (qx (qe_callTy call_list_of cas_list T.f_list (by decide +kernel) (qxs_cons (qx (qe_var 3)) qxs_nil))) (qx (qe_frz (qf_lst (qa_cons (qe_tup (qa_cons qe_str (qa_cons (qe_var 4) qa_nil))) qa_nil))))) (qe_add (qx (qe_callTy call_list_of cas_list T.f_list (by decide +kernel) (qxs_cons (qx (qe_var 3)) qxs_nil))) (qx (qe_frz (qf_lst (qa_cons qe_non qa_nil)))))) qa_nil)))) (qss_cons (qs_for pw rfl (qi_range1 T.f_range (qa_cons (qe_callB (call_min2 rfl) cas_min T.f_min (by decide +kernel) (qxs_cons (qx (qe_callB call_len cas_len T.f_len (by decide +kernel) (qxs_cons (qx (qe_ix (qx_any 2) (qx qe_int))) qxs_nil))) (qxs_cons (qx (qe_callB call_len cas_len T.f_len (by decide +kernel) (qxs_cons (qx (qe_ix (qx_any 2) (qx qe_int))) qxs_nil))) qxs_nil))) qa_nil)) (qg_name sc_l_due.nd 5) (qss_cons (qs_if (qt_w (qw_or (qt_is (qx (qe_ix (qx (qe_ix (qx_any 2) (qx qe_int))) (qx (qe_var 5)))) (qx qe_non)) (qw_or1 (qt_is (qx (qe_ix (qx (qe_ix (qx_any 2) (qx qe_int))) (qx (qe_var 5)))) (qx qe_non))))) (qss_one (qs_ret qe_non)) qss_nil) (qss_one (qs_if (qt_ne hr.r (qx (qe_ix (qx (qe_ix (qx_any 2) (qx qe_int))) (qx (qe_var 5)))) (qx (qe_ix (qx (qe_ix (qx_any 2) (qx qe_int))) (qx (qe_var 5))))) (qss_one (qs_ret (qe_var 5))) qss_nil)))) (qss_one (qs_ret qe_non)))))
theorem fd_l_take (T : Tx K K.w mg) (hs : SysB base) (ih : OkC P K.w K mg base k c) : FD P K.w K mg base (k + 2) "_law_take" (g_l_take c) :=
  fd_mk T.d_l_take T.g_l_take sc_l_take bi_l_take rfl rfl fun cdv A up s H E hr tk pw =>
    (qss_cons (qs_if (qt_eq hr.r (qx (qe_ix (qx (qe_var 0)) (qx qe_int))) (qx qe_int)) (qss_cons (qs_asg sc_l_take.nd 2 qe_int) (qss_cons (qs_if (qt_lt (qx (qe_ix (qx (qe_var 0)) (qx qe_int))) (qx (qe_callB call_len cas_len T.f_len (by decide +kernel) (qxs_cons (qx (qe_ix (qx (qe_var 0)) (qx qe_int))) qxs_nil)))) (qss_one (qs_asg sc_l_take.nd 2 (qe_ix (qx (qe_ix (qx (qe_var 0)) (qx qe_int))) (qx (qe_ix (qx (qe_var 0)) (qx qe_int)))))) qss_nil) (qss_cons (qs_augI ip_add ips_add (qe_var 0) qe_int qe_int) (qss_cons (qs_if (qt_ge (qx (qe_var 2)) (qx qe_int)) (qss_one (qs_setI (qe_var 0) qe_int (qe_var 2))) qss_nil) (qss_cons (qs_asg sc_l_take.nd 3 (qe_add (qx (qe_add (qx (qe_mul (qx (qe_ix (qx (qe_var 0)) (qx qe_int))) (qx qe_int))) (qx (qe_mod (qx (qe_callTy call_int2 cas_int2 T.f_int (by decide +kernel) (qxs_cons (qx (qe_var 2)) qxs_nil))) (qx qe_int))))) (qx (qe_mul (qx qe_int) (qx (qe_ix (qx (qe_var 0)) (qx qe_int))))))) (qss_one (qs_setI (qe_var 0) qe_int (qe_mod (qx (qe_callTy call_int2 cas_int2 T.f_int (by decide +kernel) (qxs_cons (qx (qe_var 3)) qxs_nil))) (qx qe_int))))))))) qss_nil) (qss_cons (qs_if (qt_gt (qx (qe_ix (qx (qe_var 0)) (qx qe_int))) (qx qe_int)) (qss_cons (qs_asg sc_l_take.nd 4 (qe_mod (qx (qe_callTy call_int2 cas_int2 T.f_int (by decide +kernel) (qxs_cons (qx (qe_ix (qx (qe_var 0)) (qx qe_int))) qxs_nil))) (qx (qe_var 1)))) (qss_cons (qs_setI (qe_var 0) qe_int (qe_fdiv (qx (qe_callTy call_int2 cas_int2 T.f_int (by decide +kernel) (qxs_cons (qx (qe_ix (qx (qe_var 0)) (qx qe_int))) qxs_nil))) (qx (qe_var 1)))) (qss_one (qs_ret (qe_var 4))))) qss_nil) (qss_cons (qs_asg sc_l_take.nd 5 (qe_mod (qx (qe_callTy call_int2 cas_int2 T.f_int (by decide +kernel) (qxs_cons (qx (qe_mul (qx (qe_add (qx (qe_ix (qx (qe_var 0)) (qx qe_int))) (qx qe_int))) (qx qe_int))) qxs_nil))) (qx qe_int))) (qss_cons (qs_asg sc_l_take.nd 6 (qe_mod (qx (qe_callTy call_int2 cas_int2 T.f_int (by decide +kernel) (qxs_cons (qx (qe_mul (qx (qe_mod (qx (qe_callTy call_int2 cas_int2 T.f_int (by decide +kernel) (qxs_cons (qx (qe_mul (qx (qe_var 5)) (qx (qe_var 5)))) qxs_nil))) (qx qe_int))) (qx qe_int))) qxs_nil))) (qx qe_int))) (qss_one (qs_ret (qe_mod (qx (qe_callTy call_int2 cas_int2 T.f_int (by decide +kernel) (qxs_cons (qx (qe_fdiv (qx (qe_var 6)) (qx qe_int))) qxs_nil))) (qx (qe_var 1)))))))))
theorem fd_l_one (T : Tx K K.w mg) (hs : SysB base) (ih : OkC P K.w K mg base k c) : FD P K.w K mg base (k + 2) "_law_one" (g_l_one c) :=
  fd_mk T.d_l_one T.g_l_one sc_l_one bi_l_one rfl rfl fun cdv A up s H E hr tk pw =>
    (qss_one (qs_ret (qe_ix (qx (qe_var 1)) (qx (qe_call (okf_l_take ih) hr tk (qa_cons (qe_var 0) (qa_cons (qe_callB call_len cas_len T.f_len (by decide +kernel) (qxs_cons (qx (qe_var 1)) qxs_nil)) qa_nil)))))))
theorem fd_l_entry (T : Tx K K.w mg) (hs : SysB base) (ih : OkC P K.w K mg base k c) : FD P K.w K mg base (k + 2) "_law_entry" (g_l_entry c) :=
  fd_mk T.d_l_entry T.g_l_entry sc_l_entry bi_l_entry rfl rfl fun cdv A up s H E hr tk pw =>
    (qss_cons (qs_asg sc_l_entry.nd 1 (qe_callTy call_tuple_of cas_tuple T.f_tuple (by decide +kernel) (qxs_cons (qx (qe_frz (qf_lc (own := [("_law_k", 5)]) rfl sc_l_entry.nd (qi_range1 T.f_range (qa_cons (qe_call (okf_l_take ih) hr tk (qa_cons (qe_var 0) (qa_cons qe_int qa_nil))) qa_nil)) (blkOk_by (own := [("_law_k", 5)]) (N := ["_law_bag_here", "_law_cells", "_law_names", "_law_way", "_law_given", "_law_k", "_law_name"]) (sc := defScope st_l_entry) (by decide +kernel)) (fun _ _ _ _ _ => (qg_name sc_l_entry.nd 5)) (fun _ _ _ _ _ => qts_nil) (fun _ _ _ _ _ => (qe_tup (qa_cons (qe_var 5) (qa_cons (qe_call (okf_l_take ih) hr takesW0 (qa_cons (qe_var 0) (qa_cons qe_int qa_nil))) (qa_cons (qe_call (okf_l_take ih) hr takesW0 (qa_cons (qe_var 0) (qa_cons qe_int qa_nil))) qa_nil)))))))) qxs_nil))) (qss_cons (qs_asg sc_l_entry.nd 2 (qe_callTy call_tuple_of cas_tuple T.f_tuple (by decide +kernel) (qxs_cons (qx (qe_frz (qf_lc (own := [("_law_name", 6)]) rfl sc_l_entry.nd (qi_seq (qe_cut (qx (qe_tup (qa_cons qe_str (qa_cons qe_str qa_nil)))) qo_none (qo_some (qe_call (okf_l_take ih) hr tk (qa_cons (qe_var 0) (qa_cons qe_int qa_nil)))))) (blkOk_by (own := [("_law_name", 6)]) (N := ["_law_bag_here", "_law_cells", "_law_names", "_law_way", "_law_given", "_law_k", "_law_name"]) (sc := defScope st_l_entry) (by decide +kernel)) (fun _ _ _ _ _ => (qg_name sc_l_entry.nd 6)) (fun _ _ _ _ _ => qts_nil) (fun _ _ _ _ _ => (qe_tup (qa_cons (qe_var 6) (qa_cons (qe_call (okf_l_take ih) hr takesW0 (qa_cons (qe_var 0) (qa_cons qe_int qa_nil))) qa_nil))))))) qxs_nil))) (qss_cons (qs_asg sc_l_entry.nd 3 (qe_call (okf_l_take ih) hr tk (qa_cons (qe_var 0) (qa_cons qe_int qa_nil)))) (qss_cons (qs_asg sc_l_entry.nd 4 (qe_callTy call_tuple_of cas_tuple T.f_tuple (by decide +kernel) (qxs_cons (qx (qe_frz (qf_lc (own := [("_law_k", 5)]) rfl sc_l_entry.nd (qi_range1 T.f_range (qa_cons (qe_call (okf_l_take ih) hr tk (qa_cons (qe_var 0) (qa_cons qe_int qa_nil))) qa_nil)) (blkOk_by (own := [("_law_k", 5)]) (N := ["_law_bag_here", "_law_cells", "_law_names", "_law_way", "_law_given", "_law_k", "_law_name"]) (sc := defScope st_l_entry) (by decide +kernel)) (fun _ _ _ _ _ => (qg_name sc_l_entry.nd 5)) (fun _ _ _ _ _ => qts_nil) (fun _ _ _ _ _ => (qe_call (okf_l_take ih) hr takesW0 (qa_cons (qe_var 0) (qa_cons qe_int qa_nil))))))) qxs_nil))) (qss_one (qs_ret (qe_tup (qa_cons (qe_call (okf_l_one ih) hr tk (qa_cons (qe_var 0) (qa_cons (qe_frz (qf_lst (qa_cons qe_str (qa_cons qe_str qa_nil)))) qa_nil))) (qa_cons (qe_var 4) (qa_cons (qe_if (qt_eq hr.r (qx (qe_var 3)) (qx qe_int)) qe_non (qe_var 1)) (qa_cons (qe_if (qt_lt (qx (qe_var 3)) (qx qe_int)) qe_non (qe_var 2)) qa_nil)))))))))))
theorem fd_l_end (T : Tx K K.w mg) (hs : SysB base) (ih : OkC P K.w K mg base k c) : FD P K.w K mg base (k + 2) "_law_end" (g_l_end c) :=
  fd_mk T.d_l_end T.g_l_end sc_l_end bi_l_end rfl rfl fun cdv A up s H E hr tk pw =>
    (qss_cons (qs_asg sc_l_end.nd 1 (qe_call (okf_l_entry ih) hr tk (qa_cons (qe_var 0) qa_nil))) (qss_one (qs_ret (qe_if (qt_eq hr.r (qx (qe_call (okf_l_take ih) hr tk (qa_cons (qe_var 0) (qa_cons qe_int qa_nil)))) (qx qe_int)) qe_non (qe_tup (qa_cons (qe_or (qe_ix (qx (qe_var 1)) (qx qe_int)) (qe_one (qe_tup qa_nil))) (qa_cons (qe_or (qe_ix (qx (qe_var 1)) (qx qe_int)) (qe_one (qe_tup qa_nil))) qa_nil)))))))
theorem fd_l_emptied (T : Tx K K.w mg) (hs : SysB base) (ih : OkC P K.w K mg base k c) : FD P K.w K mg base (k + 2) "_law_emptied" (g_l_emptied c) :=
  fd_mk T.d_l_emptied T.g_l_emptied sc_l_emptied bi_l_emptied rfl rfl fun cdv A up s H E hr tk pw =>
    (qss_one (qs_if (qt_tru (qx (qe_callB call_isiA cas_isi T.f_isinstance (by decide +kernel) (qxs_cons (qx (qe_var 0)) (qxs_cons (qx (qe_ty T.f_list (by decide +kernel))) qxs_nil))))) (qss_cons (qs_for pw rfl (qi_seq (qe_callTy call_list_of cas_list T.f_list (by decide +kernel) (qxs_cons (qx (qe_var 0)) qxs_nil))) (qg_name sc_l_emptied.nd 1) (qss_one (qs_expr (qe_call (okf_l_emptied ih) hr tk (qa_cons (qe_var 1) qa_nil))))) (qss_cons (qs_for pw rfl (qi_range1 T.f_range (qa_cons (qe_callB call_len cas_len T.f_len (by decide +kernel) (qxs_cons (qx (qe_var 0)) qxs_nil)) qa_nil)) (qg_name sc_l_emptied.nd 2) (qss_one (qs_expr (qe_hdlM0 PySem.F.slot_list_pop PySem.F.type_list_pop mt_pop owns_pop (qe_var 0))))) (qss_one (qs_expr (qe_hdlM PySem.F.slot_list_append PySem.F.type_list_append mt_append owns_app (qe_var 0) (qa_cons qe_str qa_nil)))))) qss_nil))
theorem fd_Record_sites (T : Tx K K.w mg) (hs : SysB base) (ih : OkC P K.w K mg base k c) : FM P K.w K mg base (k + 2) "Record" "sites" [] (g_Record_sites c) :=
  fm_mk T.d_Record_sites T.k_Record T.m_Record_sites sc_Record_sites bi_Record_sites rfl rfl fun cdv A up s H E hr tk pw =>
    (qss_one (qs_ret (qe_ix (qx (qe_fld ⟨T.k_Record, T.na_Record_told⟩ (qe_var 0))) (qx qe_int))))
theorem fd_parted_at (T : Tx K K.w mg) (hs : SysB base) (ih : OkC P K.w K mg base k c) : FD P K.w K mg base (k + 2) "parted_at" (g_parted_at c) :=
  fd_mk T.d_parted_at T.g_parted_at sc_parted_at bi_parted_at rfl rfl fun cdv A up s H E hr tk pw =>
    (qss_cons (qs_par rfl sc_parted_at.nd 2 3 (qa_cons (qe_meth0 (okf_Record_entries ih) hr tk (qe_var 0)) (qa_cons (qe_meth0 (okf_Record_entries ih) hr tk (qe_var 1)) qa_nil))) (qss_cons (qs_for pw rfl (qi_ez T.f_zip T.f_enumerate (qa_cons (qe_var 2) (qa_cons (qe_var 3) qa_nil))) (qg_tup rfl (qgs_cons (qg_name sc_parted_at.nd 4) (qgs_cons (qg_tup rfl (qgs_cons (qg_name sc_parted_at.nd 5) (qgs_cons (qg_name sc_parted_at.nd 6) qgs_nil))) qgs_nil))) (qss_one (qs_if (qt_ne hr.r (qx (qe_var 5)) (qx (qe_var 6))) (qss_one (qs_ret (qe_var 4))) qss_nil))) (qss_cons (qs_if (qt_lt (qx (qe_callB call_len cas_len T.f_len (by decide +kernel) (qxs_cons (qx (qe_var 2)) qxs_nil))) (qx (qe_callB call_len cas_len T.f_len (by decide +kernel) (qxs_cons (qx (qe_var 3)) qxs_nil)))) (qss_one (qs_ret (qe_if (qt_is (qx (qe_meth0 (okf_Record_end ih) hr tk (qe_var 0))) (qx qe_non)) qe_non (qe_callB call_len cas_len T.f_len (by decide +kernel) (qxs_cons (qx (qe_var 2)) qxs_nil))))) qss_nil) (qss_cons (qs_if (qt_lt (qx (qe_callB call_len cas_len T.f_len (by decide +kernel) (qxs_cons (qx (qe_var 3)) qxs_nil))) (qx (qe_callB call_len cas_len T.f_len (by decide +kernel) (qxs_cons (qx (qe_var 2)) qxs_nil)))) (qss_one (qs_ret (qe_if (qt_is (qx (qe_meth0 (okf_Record_end ih) hr tk (qe_var 1))) (qx qe_non)) qe_non (qe_callB call_len cas_len T.f_len (by decide +kernel) (qxs_cons (qx (qe_var 3)) qxs_nil))))) qss_nil) (qss_cons (qs_if (qt_w (qw_or (qt_is (qx (qe_meth0 (okf_Record_end ih) hr tk (qe_var 0))) (qx qe_non)) (qw_or (qt_is (qx (qe_meth0 (okf_Record_end ih) hr tk (qe_var 1))) (qx qe_non)) (qw_or1 (qt_eq hr.r (qx (qe_meth0 (okf_Record_end ih) hr tk (qe_var 0))) (qx (qe_meth0 (okf_Record_end ih) hr tk (qe_var 1)))))))) (qss_one (qs_ret qe_non)) qss_nil) (qss_one (qs_ret (qe_callB call_len cas_len T.f_len (by decide +kernel) (qxs_cons (qx (qe_var 2)) qxs_nil)))))))))
theorem fd_NoFailing_init (T : Tx K K.w mg) (hs : SysB base) (ih : OkC P K.w K mg base k c) : FX P K.w K mg base (k + 2) "NoFailing" ["index"] (g_NoFailing_init c) :=
  fx_mk (w := K.w) T.d_NoFailing_init T.g_NoFailing T.xc_NoFailing sc_NoFailing_init bi_NoFailing_init rfl fun cdv A up s H E => pss_xi1 rfl T.g_FoundError T.fe_FoundError
theorem fd_Record_left (T : Tx K K.w mg) (hs : SysB base) (ih : OkC P K.w K mg base k c) : FM P K.w K mg base (k + 2) "Record" "left" [] (g_Record_left c) :=
  fm_mk T.d_Record_left T.k_Record T.m_Record_left sc_Record_left bi_Record_left rfl rfl fun cdv A up s H E hr tk pw =>
    (qss_cons (qs_if (qt_w (qw_or (qt_not (qt_tru (qx (qe_callB call_isiA cas_isi T.f_isinstance (by decide +kernel) (qxs_cons (qx (qe_var 1)) (qxs_cons (qx (qe_ty T.f_int (by decide +kernel))) qxs_nil)))))) (qw_or (qt_tru (qx (qe_callB call_isiA cas_isi T.f_isinstance (by decide +kernel) (qxs_cons (qx (qe_var 1)) (qxs_cons (qx (qe_ty T.f_bool (by decide +kernel))) qxs_nil))))) (qw_or1 (qt_not (qt_chn op_le os_le op_lt os_lt (qx qe_int) (qx (qe_var 1)) (qx (qe_callB call_len cas_len T.f_len (by decide +kernel) (qxs_cons (qx (qe_ix (qx (qe_fld ⟨T.k_Record, T.na_Record_told⟩ (qe_var 0))) (qx qe_int))) qxs_nil))))))))) (qss_one (qs_raise (okf_NoFailing_init ih) hr tk rfl (by decide) (qa_cons (qe_var 1) qa_nil))) qss_nil) (qss_cons (qs_asg sc_Record_left.nd 2 (qe_ix (qx (qe_ix (qx (qe_fld ⟨T.k_Record, T.na_Record_told⟩ (qe_var 0))) (qx qe_int))) (qx (qe_var 1)))) (qss_cons (qs_if (qt_is (qx (qe_ix (qx (qe_var 2)) (qx qe_int))) (qx qe_non)) (qss_one (qs_raise (okf_NoFailing_init ih) hr tk rfl (by decide) (qa_cons (qe_var 1) qa_nil))) qss_nil) (qss_one (qs_ret (qe_tup (qa_cons (qe_ix (qx (qe_var 2)) (qx qe_int)) (qa_cons (qe_ix (qx (qe_var 2)) (qx qe_int)) qa_nil))))))))
theorem fd_l_left (T : Tx K K.w mg) (hs : SysB base) (ih : OkC P K.w K mg base k c) : FD P K.w K mg base (k + 2) "_law_left" (g_l_left c) :=
  fd_mk T.d_l_left T.g_l_left sc_l_left bi_l_left rfl rfl fun cdv A up s H E hr tk pw =>
    (qss_one (qs_tryR sc_l_left.nd 2 ⟨rfl, by decide, .inl T.g_NoFailing⟩ T.ext_NoFailing tk (fun W pn xe tk pw => (qss_one (qs_ret (qe_tup (qa_cons qe_str (qa_cons (qe_meth (okf_Record_left ih) hr tk (qe_var 0) (qa_cons (qe_var 1) qa_nil)) qa_nil)))))) (qhs_ret (qh_tup (qha_cons (qh_emb fun _ _ _ => qe_str) (qha_cons (qh_fld T.xt) qha_nil))))))
theorem fd_l_lefts_hold (T : Tx K K.w mg) (hs : SysB base) (ih : OkC P K.w K mg base k c) : FD P K.w K mg base (k + 2) "_law_lefts_hold" (g_l_lefts_hold c) :=
  fd_mk T.d_l_lefts_hold T.g_l_lefts_hold sc_l_lefts_hold bi_l_lefts_hold rfl rfl fun cdv A up s H E hr tk pw =>
    (qss_cons (qs_for pw rfl (qi_range1 T.f_range (qa_cons (qe_callB call_len cas_len T.f_len (by decide +kernel) (qxs_cons (qx (qe_var 1)) qxs_nil)) qa_nil)) (qg_name sc_l_lefts_hold.nd 2) (qss_cons (qs_asg sc_l_lefts_hold.nd 3 (qe_if (qt_is (qx (qe_ix (qx (qe_ix (qx (qe_var 1)) (qx (qe_var 2)))) (qx qe_int))) (qx qe_non)) (qe_tup (qa_cons qe_str (qa_cons (qe_var 2) qa_nil))) (qe_tup (qa_cons qe_str (qa_cons (qe_tup (qa_cons (qe_ix (qx (qe_ix (qx (qe_var 1)) (qx (qe_var 2)))) (qx qe_int)) (qa_cons (qe_ix (qx (qe_ix (qx (qe_var 1)) (qx (qe_var 2)))) (qx qe_int)) qa_nil))) qa_nil))))) (qss_one (qs_if (qt_ne hr.r (qx (qe_call (okf_l_left ih) hr tk (qa_cons (qe_var 0) (qa_cons (qe_var 2) qa_nil)))) (qx (qe_var 3))) (qss_one (qs_ret qe_bl)) qss_nil)))) (qss_cons (qs_for pw rfl (qi_seq (qe_tup (qa_cons (qe_neg qe_int) (qa_cons (qe_callB call_len cas_len T.f_len (by decide +kernel) (qxs_cons (qx (qe_var 1)) qxs_nil)) (qa_cons qe_non (qa_cons qe_bl (qa_cons qe_str (qa_cons (qe_pow (qx qe_int) (qx qe_int)) (qa_cons (qe_frz (qf_lst (qa_cons qe_int qa_nil))) qa_nil))))))))) (qg_name sc_l_lefts_hold.nd 4) (qss_one (qs_if (qt_ne hr.r (qx (qe_callB (call_repr hr hs) cas_repr T.f_repr (by decide +kernel) (qxs_cons (qx (qe_call (okf_l_left ih) hr tk (qa_cons (qe_var 0) (qa_cons (qe_var 4) qa_nil)))) qxs_nil))) (qx (qe_callB (call_repr hr hs) cas_repr T.f_repr (by decide +kernel) (qxs_cons (qx (qe_tup (qa_cons qe_str (qa_cons (qe_var 4) qa_nil)))) qxs_nil)))) (qss_one (qs_ret qe_bl)) qss_nil))) (qss_one (qs_ret qe_bl))))
theorem fd_law (T : Tx K K.w mg) (hs : SysB base) (ih : OkC P K.w K mg base k c) : FD P K.w K mg base (k + 2) "law" (g_law c) :=
  fd_mk T.d_law T.g_law sc_law bi_law rfl rfl fun cdv A up s H E hr tk pw =>
    (qss_cons (qs_asg sc_law.nd 1 (qe_call (okf_l_bag ih) hr tk (qa_cons (qe_var 0) qa_nil))) (qss_cons (qs_for pw rfl (qi_range1 T.f_range (qa_cons qe_int qa_nil)) (qg_name sc_law.nd 2) (qss_cons (qs_par rfl sc_law.nd 3 4 (qa_cons (qe_frz (qf_lc (own := [("_law_k", 18)]) rfl sc_law.nd (qi_range1 T.f_range (qa_cons (qe_call (okf_l_take ih) hr tk (qa_cons (qe_var 1) (qa_cons qe_int qa_nil))) qa_nil)) (blkOk_by (own := [("_law_k", 18)]) (N := ["_law_script", "_law_bag_here", "_law_turn", "_law_entries", "_law_end_here", "_law_others", "_law_last", "_law_time", "_law_at", "_law_way", "_law_passed", "_law_sites", "_law_last_one", "_law_one_here", "_law_thing", "_law_other", "_law_due_here", "_law_found", "_law_k"]) (sc := defScope st_law) (by decide +kernel)) (fun _ _ _ _ _ => (qg_name sc_law.nd 18)) (fun _ _ _ _ _ => qts_nil) (fun _ _ _ _ _ => (qe_call (okf_l_entry ih) hr takesW0 (qa_cons (qe_var 1) qa_nil))))) (qa_cons (qe_call (okf_l_end ih) hr tk (qa_cons (qe_var 1) qa_nil)) qa_nil))) (qss_cons (qs_par rfl sc_law.nd 5 6 (qa_cons (qe_new (qf_list T.f_list (qxs_cons (qx (qe_var 3)) qxs_nil))) (qa_cons (qe_var 4) qa_nil))) (qss_cons (qs_for pw rfl (qi_range1 T.f_range (qa_cons (qe_call (okf_l_take ih) hr tk (qa_cons (qe_var 1) (qa_cons qe_int qa_nil))) qa_nil)) (qg_name sc_law.nd 7) (qss_cons (qs_par rfl sc_law.nd 8 9 (qa_cons (qe_call (okf_l_take ih) hr tk (qa_cons (qe_var 1) (qa_cons (qe_add (qx (qe_callB call_len cas_len T.f_len (by decide +kernel) (qxs_cons (qx (qe_var 5)) qxs_nil))) (qx qe_int)) qa_nil))) (qa_cons (qe_call (okf_l_take ih) hr tk (qa_cons (qe_var 1) (qa_cons qe_int qa_nil))) qa_nil))) (qss_one (qs_if (qt_eq hr.r (qx (qe_var 9)) (qx qe_int)) (qss_one (qs_asg sc_law.nd 6 (qe_call (okf_l_end ih) hr tk (qa_cons (qe_var 1) qa_nil)))) (qss_one (qs_if (qt_eq hr.r (qx (qe_var 9)) (qx qe_int)) (qss_one (qs_asg sc_law.nd 5 (qe_new (qf_cut (qx (qe_var 5)) qo_none (qo_some (qe_var 8)))))) (qss_one (qs_if (qt_eq hr.r (qx (qe_var 9)) (qx qe_int)) (qss_one (qs_expr (qe_hdlM PySem.F.slot_list_insert PySem.F.type_list_insert mt_insert owns_ins (qe_var 5) (qa_cons (qe_var 8) (qa_cons (qe_call (okf_l_entry ih) hr tk (qa_cons (qe_var 1) qa_nil)) qa_nil))))) (qss_one (qs_cutP (qe_var 5) (qo_some (qe_var 8)) (qo_some (qe_add (qx (qe_var 8)) (qx qe_int))) (qe_frz (qf_lst (qa_cons (qe_call (okf_l_entry ih) hr tk (qa_cons (qe_var 1) qa_nil)) qa_nil))))))))))))) (qss_cons (qs_par rfl sc_law.nd 10 11 (qa_cons (qe_call (okf_l_lists ih) hr tk (qa_cons (qe_var 3) qa_nil)) (qa_cons (qe_new (qf_rng T.f_list T.f_range (qe_callB call_len cas_len T.f_len (by decide +kernel) (qxs_cons (qx (qe_var 3)) qxs_nil)))) qa_nil))) (qss_cons (qs_asg sc_law.nd 12 (qe_call (okf_l_lists ih) hr tk (qa_cons (qe_var 4) qa_nil))) (qss_cons (qs_asg sc_law.nd 13 (qe_mkL (FI.fk (okf_Record_init ih) (pb_Record_3 _)) hr tk (qa_cons (qe_var 10) (qa_cons (qe_var 11) (qa_cons (qe_var 12) qa_nil))))) (qss_cons (qs_for pw rfl (qi_seq (qe_tup (qa_cons (qe_var 10) (qa_cons (qe_var 11) (qa_cons (qe_var 12) qa_nil))))) (qg_name sc_law.nd 14) (qss_one (qs_expr (qe_call (okf_l_emptied ih) hr tk (qa_cons (qe_var 14) qa_nil))))) (qss_cons (qs_asg sc_law.nd 15 (qe_mkL (FI.fk (okf_Record_init ih) (pb_Record_3 _)) hr tk (qa_cons (qe_callTy call_tuple_of cas_tuple T.f_tuple (by decide +kernel) (qxs_cons (qx (qe_var 5)) qxs_nil)) (qa_cons (qe_callTy call_tuple_of cas_tuple T.f_tuple (by decide +kernel) (qxs_cons (qx (qe_frz (qf_lc (own := [("_law_k", 18)]) rfl sc_law.nd (qi_range1 T.f_range (qa_cons (qe_callB call_len cas_len T.f_len (by decide +kernel) (qxs_cons (qx (qe_var 5)) qxs_nil)) qa_nil)) (blkOk_by (own := [("_law_k", 18)]) (N := ["_law_script", "_law_bag_here", "_law_turn", "_law_entries", "_law_end_here", "_law_others", "_law_last", "_law_time", "_law_at", "_law_way", "_law_passed", "_law_sites", "_law_last_one", "_law_one_here", "_law_thing", "_law_other", "_law_due_here", "_law_found", "_law_k"]) (sc := defScope st_law) (by decide +kernel)) (fun _ _ _ _ _ => (qg_name sc_law.nd 18)) (fun _ _ _ _ _ => qts_nil) (fun _ _ _ _ _ => (qe_add (qx (qe_var 18)) (qx qe_int)))))) qxs_nil)) (qa_cons (qe_var 6) qa_nil))))) (qss_cons (qs_if (qt_w (qw_or (qt_ne hr.r (qx (qe_meth0 (okf_Record_entries ih) hr tk (qe_var 13))) (qx (qe_callTy call_tuple_of cas_tuple T.f_tuple (by decide +kernel) (qxs_cons (qx (qe_var 3)) qxs_nil)))) (qw_or (qt_ne hr.r (qx (qe_meth0 (okf_Record_end ih) hr tk (qe_var 13))) (qx (qe_var 4))) (qw_or1 (qt_ne hr.r (qx (qe_meth0 (okf_Record_sites ih) hr tk (qe_var 13))) (qx (qe_rngT T.f_tuple T.f_range (qe_callB call_len cas_len T.f_len (by decide +kernel) (qxs_cons (qx (qe_var 3)) qxs_nil))))))))) (qss_one (qs_ret qe_bl)) qss_nil) (qss_cons (qs_if (qt_w (qw_or (qt_ne hr.r (qx (qe_lenC (okf_Record_len ih) hr T.f_len (qe_var 13))) (qx (qe_callB call_len cas_len T.f_len (by decide +kernel) (qxs_cons (qx (qe_var 3)) qxs_nil)))) (qw_or (qt_ne hr.r (qx (qe_eqO T.eq_Record (okf_Record_eq ih) hr (qe_var 13) (qe_var 15))) (qx (qe_and (qe_eq hr.r (qx (qe_var 3)) (qx (qe_var 5))) (qe_one (qe_eq hr.r (qx (qe_var 4)) (qx (qe_var 6))))))) (qw_or1 (qt_eqO T.eq_Record (okf_Record_eq ih) hr (qe_var 13) (qe_var 4)))))) (qss_one (qs_ret qe_bl)) qss_nil) (qss_cons (qs_asg sc_law.nd 16 (qe_call (okf_l_due ih) hr tk (qa_cons (qe_tup (qa_cons (qe_var 3) (qa_cons (qe_var 4) qa_nil))) (qa_cons (qe_tup (qa_cons (qe_var 5) (qa_cons (qe_var 6) qa_nil))) qa_nil)))) (qss_cons (qs_for pw rfl (qi_seq (qe_tup (qa_cons (qe_call (okf_parted_at ih) hr tk (qa_cons (qe_var 13) (qa_cons (qe_var 15) qa_nil))) (qa_cons (qe_call (okf_parted_at ih) hr tk (qa_cons (qe_var 15) (qa_cons (qe_var 13) qa_nil))) qa_nil)))) (qg_name sc_law.nd 17) (qss_one (qs_if (qt_w (qw_or (qt_ne hr.r (qx (qe_var 17)) (qx (qe_var 16))) (qw_or1 (qt_tru (qx (qe_callB call_isiA cas_isi T.f_isinstance (by decide +kernel) (qxs_cons (qx (qe_var 17)) (qxs_cons (qx (qe_ty T.f_bool (by decide +kernel))) qxs_nil)))))))) (qss_one (qs_ret qe_bl)) qss_nil))) (qss_one (qs_if (qt_w (qw_or (qt_isnot (qx (qe_call (okf_parted_at ih) hr tk (qa_cons (qe_var 13) (qa_cons (qe_var 13) qa_nil)))) (qx qe_non)) (qw_or (qt_not (qt_tru (qx (qe_call (okf_l_lefts_hold ih) hr tk (qa_cons (qe_var 13) (qa_cons (qe_var 3) qa_nil)))))) (qw_or1 (qt_not (qt_tru (qx (qe_call (okf_l_lefts_hold ih) hr tk (qa_cons (qe_var 15) (qa_cons (qe_var 5) qa_nil)))))))))) (qss_one (qs_ret qe_bl)) qss_nil))))))))))))))) (qss_one (qs_ret qe_bl))))
end
section
variable {P : Program} {K : Kw} {mg : Str → Option Value} {base : Heap}
theorem all_ok (T : Tx K K.w mg) (hs : SysB base) : ∀ n, OkC P K.w K mg base (2 * n) (calls n)
  | 0 => fun f => match f with
    | .Record_len => fm_no T.d_Record_len T.k_Record T.m_Record_len bi_Record_len
    | .l_bag => fd_no T.d_l_bag T.g_l_bag bi_l_bag
    | .as_tuples => fd_no T.d_as_tuples T.g_as_tuples bi_as_tuples
    | .Record_init => fi_no T.d_Record_init T.g_Record T.mk_Record
    | .l_lists => fd_no T.d_l_lists T.g_l_lists bi_l_lists
    | .Record_entries => fm_no T.d_Record_entries T.k_Record T.m_Record_entries bi_Record_entries
    | .Record_end => fm_no T.d_Record_end T.k_Record T.m_Record_end bi_Record_end
    | .Record_eq => fm_no T.d_Record_eq T.k_Record T.m_Record_eq bi_Record_eq
    | .l_due => fd_no T.d_l_due T.g_l_due bi_l_due
    | .l_take => fd_no T.d_l_take T.g_l_take bi_l_take
    | .l_one => fd_no T.d_l_one T.g_l_one bi_l_one
    | .l_entry => fd_no T.d_l_entry T.g_l_entry bi_l_entry
    | .l_end => fd_no T.d_l_end T.g_l_end bi_l_end
    | .l_emptied => fd_no T.d_l_emptied T.g_l_emptied bi_l_emptied
    | .Record_sites => fm_no T.d_Record_sites T.k_Record T.m_Record_sites bi_Record_sites
    | .parted_at => fd_no T.d_parted_at T.g_parted_at bi_parted_at
    | .NoFailing_init => fx_no
    | .Record_left => fm_no T.d_Record_left T.k_Record T.m_Record_left bi_Record_left
    | .l_left => fd_no T.d_l_left T.g_l_left bi_l_left
    | .l_lefts_hold => fd_no T.d_l_lefts_hold T.g_l_lefts_hold bi_l_lefts_hold
    | .law => fd_no T.d_law T.g_law bi_law
  | n + 1 => fun f => match f with
    | .Record_len => fd_Record_len T hs (all_ok T hs n)
    | .l_bag => fd_l_bag T hs (all_ok T hs n)
    | .as_tuples => fd_as_tuples T hs (all_ok T hs n)
    | .Record_init => fd_Record_init T hs (all_ok T hs n)
    | .l_lists => fd_l_lists T hs (all_ok T hs n)
    | .Record_entries => fd_Record_entries T hs (all_ok T hs n)
    | .Record_end => fd_Record_end T hs (all_ok T hs n)
    | .Record_eq => fd_Record_eq T hs (all_ok T hs n)
    | .l_due => fd_l_due T hs (all_ok T hs n)
    | .l_take => fd_l_take T hs (all_ok T hs n)
    | .l_one => fd_l_one T hs (all_ok T hs n)
    | .l_entry => fd_l_entry T hs (all_ok T hs n)
    | .l_end => fd_l_end T hs (all_ok T hs n)
    | .l_emptied => fd_l_emptied T hs (all_ok T hs n)
    | .Record_sites => fd_Record_sites T hs (all_ok T hs n)
    | .parted_at => fd_parted_at T hs (all_ok T hs n)
    | .NoFailing_init => fd_NoFailing_init T hs (all_ok T hs n)
    | .Record_left => fd_Record_left T hs (all_ok T hs n)
    | .l_left => fd_l_left T hs (all_ok T hs n)
    | .l_lefts_hold => fd_l_lefts_hold T hs (all_ok T hs n)
    | .law => fd_law T hs (all_ok T hs n)
theorem ok_law {fd : FuncData} (T : Tx K K.w mg) (hs : SysB base) (F : FunD K "law" "law" (defArgs st_law) (defBody st_law) (defScope st_law) [] [] (He.ga K "law") fd) : FnG P K.w K mg base (2 * (40 + 1)) (He.ga K "law") fd ["_law_script"] (spD K (calls (40 + 1) .law)) :=
  have ih : OkC P K.w K mg base (2 * 40) (calls 40) := all_ok T hs 40
  fn_mk (k := 2 * 40 + 1) (fb := fb_law (calls 40)) F sc_law fun cdv A up s H E hr tk pw =>
    (qss_cons (qs_asg sc_law.nd 1 (qe_call (okf_l_bag ih) hr tk (qa_cons (qe_var 0) qa_nil))) (qss_cons (qs_for pw rfl (qi_range1 T.f_range (qa_cons qe_int qa_nil)) (qg_name sc_law.nd 2) (qss_cons (qs_par rfl sc_law.nd 3 4 (qa_cons (qe_frz (qf_lc (own := [("_law_k", 18)]) rfl sc_law.nd (qi_range1 T.f_range (qa_cons (qe_call (okf_l_take ih) hr tk (qa_cons (qe_var 1) (qa_cons qe_int qa_nil))) qa_nil)) (blkOk_by (own := [("_law_k", 18)]) (N := ["_law_script", "_law_bag_here", "_law_turn", "_law_entries", "_law_end_here", "_law_others", "_law_last", "_law_time", "_law_at", "_law_way", "_law_passed", "_law_sites", "_law_last_one", "_law_one_here", "_law_thing", "_law_other", "_law_due_here", "_law_found", "_law_k"]) (sc := defScope st_law) (by decide +kernel)) (fun _ _ _ _ _ => (qg_name sc_law.nd 18)) (fun _ _ _ _ _ => qts_nil) (fun _ _ _ _ _ => (qe_call (okf_l_entry ih) hr takesW0 (qa_cons (qe_var 1) qa_nil))))) (qa_cons (qe_call (okf_l_end ih) hr tk (qa_cons (qe_var 1) qa_nil)) qa_nil))) (qss_cons (qs_par rfl sc_law.nd 5 6 (qa_cons (qe_new (qf_list T.f_list (qxs_cons (qx (qe_var 3)) qxs_nil))) (qa_cons (qe_var 4) qa_nil))) (qss_cons (qs_for pw rfl (qi_range1 T.f_range (qa_cons (qe_call (okf_l_take ih) hr tk (qa_cons (qe_var 1) (qa_cons qe_int qa_nil))) qa_nil)) (qg_name sc_law.nd 7) (qss_cons (qs_par rfl sc_law.nd 8 9 (qa_cons (qe_call (okf_l_take ih) hr tk (qa_cons (qe_var 1) (qa_cons (qe_add (qx (qe_callB call_len cas_len T.f_len (by decide +kernel) (qxs_cons (qx (qe_var 5)) qxs_nil))) (qx qe_int)) qa_nil))) (qa_cons (qe_call (okf_l_take ih) hr tk (qa_cons (qe_var 1) (qa_cons qe_int qa_nil))) qa_nil))) (qss_one (qs_if (qt_eq hr.r (qx (qe_var 9)) (qx qe_int)) (qss_one (qs_asg sc_law.nd 6 (qe_call (okf_l_end ih) hr tk (qa_cons (qe_var 1) qa_nil)))) (qss_one (qs_if (qt_eq hr.r (qx (qe_var 9)) (qx qe_int)) (qss_one (qs_asg sc_law.nd 5 (qe_new (qf_cut (qx (qe_var 5)) qo_none (qo_some (qe_var 8)))))) (qss_one (qs_if (qt_eq hr.r (qx (qe_var 9)) (qx qe_int)) (qss_one (qs_expr (qe_hdlM PySem.F.slot_list_insert PySem.F.type_list_insert mt_insert owns_ins (qe_var 5) (qa_cons (qe_var 8) (qa_cons (qe_call (okf_l_entry ih) hr tk (qa_cons (qe_var 1) qa_nil)) qa_nil))))) (qss_one (qs_cutP (qe_var 5) (qo_some (qe_var 8)) (qo_some (qe_add (qx (qe_var 8)) (qx qe_int))) (qe_frz (qf_lst (qa_cons (qe_call (okf_l_entry ih) hr tk (qa_cons (qe_var 1) qa_nil)) qa_nil))))))))))))) (qss_cons (qs_par rfl sc_law.nd 10 11 (qa_cons (qe_call (okf_l_lists ih) hr tk (qa_cons (qe_var 3) qa_nil)) (qa_cons (qe_new (qf_rng T.f_list T.f_range (qe_callB call_len cas_len T.f_len (by decide +kernel) (qxs_cons (qx (qe_var 3)) qxs_nil)))) qa_nil))) (qss_cons (qs_asg sc_law.nd 12 (qe_call (okf_l_lists ih) hr tk (qa_cons (qe_var 4) qa_nil))) (qss_cons (qs_asg sc_law.nd 13 (qe_mkL (FI.fk (okf_Record_init ih) (pb_Record_3 _)) hr tk (qa_cons (qe_var 10) (qa_cons (qe_var 11) (qa_cons (qe_var 12) qa_nil))))) (qss_cons (qs_for pw rfl (qi_seq (qe_tup (qa_cons (qe_var 10) (qa_cons (qe_var 11) (qa_cons (qe_var 12) qa_nil))))) (qg_name sc_law.nd 14) (qss_one (qs_expr (qe_call (okf_l_emptied ih) hr tk (qa_cons (qe_var 14) qa_nil))))) (qss_cons (qs_asg sc_law.nd 15 (qe_mkL (FI.fk (okf_Record_init ih) (pb_Record_3 _)) hr tk (qa_cons (qe_callTy call_tuple_of cas_tuple T.f_tuple (by decide +kernel) (qxs_cons (qx (qe_var 5)) qxs_nil)) (qa_cons (qe_callTy call_tuple_of cas_tuple T.f_tuple (by decide +kernel) (qxs_cons (qx (qe_frz (qf_lc (own := [("_law_k", 18)]) rfl sc_law.nd (qi_range1 T.f_range (qa_cons (qe_callB call_len cas_len T.f_len (by decide +kernel) (qxs_cons (qx (qe_var 5)) qxs_nil)) qa_nil)) (blkOk_by (own := [("_law_k", 18)]) (N := ["_law_script", "_law_bag_here", "_law_turn", "_law_entries", "_law_end_here", "_law_others", "_law_last", "_law_time", "_law_at", "_law_way", "_law_passed", "_law_sites", "_law_last_one", "_law_one_here", "_law_thing", "_law_other", "_law_due_here", "_law_found", "_law_k"]) (sc := defScope st_law) (by decide +kernel)) (fun _ _ _ _ _ => (qg_name sc_law.nd 18)) (fun _ _ _ _ _ => qts_nil) (fun _ _ _ _ _ => (qe_add (qx (qe_var 18)) (qx qe_int)))))) qxs_nil)) (qa_cons (qe_var 6) qa_nil))))) (qss_cons (qs_if (qt_w (qw_or (qt_ne hr.r (qx (qe_meth0 (okf_Record_entries ih) hr tk (qe_var 13))) (qx (qe_callTy call_tuple_of cas_tuple T.f_tuple (by decide +kernel) (qxs_cons (qx (qe_var 3)) qxs_nil)))) (qw_or (qt_ne hr.r (qx (qe_meth0 (okf_Record_end ih) hr tk (qe_var 13))) (qx (qe_var 4))) (qw_or1 (qt_ne hr.r (qx (qe_meth0 (okf_Record_sites ih) hr tk (qe_var 13))) (qx (qe_rngT T.f_tuple T.f_range (qe_callB call_len cas_len T.f_len (by decide +kernel) (qxs_cons (qx (qe_var 3)) qxs_nil))))))))) (qss_one (qs_ret qe_bl)) qss_nil) (qss_cons (qs_if (qt_w (qw_or (qt_ne hr.r (qx (qe_lenC (okf_Record_len ih) hr T.f_len (qe_var 13))) (qx (qe_callB call_len cas_len T.f_len (by decide +kernel) (qxs_cons (qx (qe_var 3)) qxs_nil)))) (qw_or (qt_ne hr.r (qx (qe_eqO T.eq_Record (okf_Record_eq ih) hr (qe_var 13) (qe_var 15))) (qx (qe_and (qe_eq hr.r (qx (qe_var 3)) (qx (qe_var 5))) (qe_one (qe_eq hr.r (qx (qe_var 4)) (qx (qe_var 6))))))) (qw_or1 (qt_eqO T.eq_Record (okf_Record_eq ih) hr (qe_var 13) (qe_var 4)))))) (qss_one (qs_ret qe_bl)) qss_nil) (qss_cons (qs_asg sc_law.nd 16 (qe_call (okf_l_due ih) hr tk (qa_cons (qe_tup (qa_cons (qe_var 3) (qa_cons (qe_var 4) qa_nil))) (qa_cons (qe_tup (qa_cons (qe_var 5) (qa_cons (qe_var 6) qa_nil))) qa_nil)))) (qss_cons (qs_for pw rfl (qi_seq (qe_tup (qa_cons (qe_call (okf_parted_at ih) hr tk (qa_cons (qe_var 13) (qa_cons (qe_var 15) qa_nil))) (qa_cons (qe_call (okf_parted_at ih) hr tk (qa_cons (qe_var 15) (qa_cons (qe_var 13) qa_nil))) qa_nil)))) (qg_name sc_law.nd 17) (qss_one (qs_if (qt_w (qw_or (qt_ne hr.r (qx (qe_var 17)) (qx (qe_var 16))) (qw_or1 (qt_tru (qx (qe_callB call_isiA cas_isi T.f_isinstance (by decide +kernel) (qxs_cons (qx (qe_var 17)) (qxs_cons (qx (qe_ty T.f_bool (by decide +kernel))) qxs_nil)))))))) (qss_one (qs_ret qe_bl)) qss_nil))) (qss_one (qs_if (qt_w (qw_or (qt_isnot (qx (qe_call (okf_parted_at ih) hr tk (qa_cons (qe_var 13) (qa_cons (qe_var 13) qa_nil)))) (qx qe_non)) (qw_or (qt_not (qt_tru (qx (qe_call (okf_l_lefts_hold ih) hr tk (qa_cons (qe_var 13) (qa_cons (qe_var 3) qa_nil)))))) (qw_or1 (qt_not (qt_tru (qx (qe_call (okf_l_lefts_hold ih) hr tk (qa_cons (qe_var 15) (qa_cons (qe_var 5) qa_nil)))))))))) (qss_one (qs_ret qe_bl)) qss_nil))))))))))))))) (qss_one (qs_ret qe_bl))))
end
theorem tx_mk {K : Kw} {h : Heap} {mg : Str → Option Value} (KX : Kw.In K h) (G : h.Ns mainGlobals mg) (c : SaysN fa fn ts K.w K) : Tx K K.w mg :=
  ⟨He.free_ok KX G (c.fact 0 (f := .free "abs") rfl), He.free_ok KX G (c.fact 1 (f := .free "bool") rfl), He.free_ok KX G (c.fact 2 (f := .free "enumerate") rfl), He.free_ok KX G (c.fact 3 (f := .free "int") rfl), He.free_ok KX G (c.fact 4 (f := .free "isinstance") rfl), He.free_ok KX G (c.fact 5 (f := .free "len") rfl), He.free_ok KX G (c.fact 6 (f := .free "list") rfl), He.free_ok KX G (c.fact 7 (f := .free "min") rfl), He.free_ok KX G (c.fact 8 (f := .free "range") rfl), He.free_ok KX G (c.fact 9 (f := .free "repr") rfl), He.free_ok KX G (c.fact 10 (f := .free "tuple") rfl), He.free_ok KX G (c.fact 11 (f := .free "zip") rfl), He.glo_ok KX G (c.fact 12 (f := .glo "_law_bag") rfl), He.glo_ok KX G (c.fact 13 (f := .glo "as_tuples") rfl), He.glo_ok KX G (c.fact 14 (f := .glo "_law_lists") rfl), He.glo_ok KX G (c.fact 15 (f := .glo "_law_due") rfl), He.glo_ok KX G (c.fact 16 (f := .glo "_law_take") rfl), He.glo_ok KX G (c.fact 17 (f := .glo "_law_one") rfl), He.glo_ok KX G (c.fact 18 (f := .glo "_law_entry") rfl), He.glo_ok KX G (c.fact 19 (f := .glo "_law_end") rfl), He.glo_ok KX G (c.fact 20 (f := .glo "_law_emptied") rfl), He.glo_ok KX G (c.fact 21 (f := .glo "parted_at") rfl), He.glo_ok KX G (c.fact 22 (f := .glo "_law_left") rfl), He.glo_ok KX G (c.fact 23 (f := .glo "_law_lefts_hold") rfl), He.glo_ok KX G (c.fact 24 (f := .glo "law") rfl), He.glo_ok KX G (c.fact 25 (f := .glo "FoundError") rfl), He.glo_ok KX G (c.fact 26 (f := .glo "NoFailing") rfl), He.glo_ok KX G (c.fact 27 (f := .glo "Record") rfl), cls_f (c.fact 28 (f := faB (.cls "Record")) rfl), mkr_f (c.fact 29 (f := faB (.mkr "Record")) rfl), noat_f (c.fact 30 (f := faB (.noat "Record" "told")) rfl), iso_f (c.fact 31 (f := isoB "Record" su_Record) rfl), eqf_f (c.fact 32 (f := eqfB "Record") rfl), fe_f (c.fact 33 (f := feB "FoundError") rfl), xc_f (c.fact 34 (f := xcB "NoFailing" ["index"]) rfl), xt_f (c.fact 35 (f := xtB xtab) rfl), ext_f (c.fact 36 (f := extB "NoFailing" ext_NoFailing) rfl), meth_f (c.fact 37 (f := faB (.meth "Record" "__len__")) rfl), meth_f (c.fact 38 (f := faB (.meth "Record" "entries")) rfl), meth_f (c.fact 39 (f := faB (.meth "Record" "end")) rfl), meth_f (c.fact 40 (f := faB (.meth "Record" "__eq__")) rfl), meth_f (c.fact 41 (f := faB (.meth "Record" "sites")) rfl), meth_f (c.fact 42 (f := faB (.meth "Record" "left")) rfl), c.def_ 0 (d := dd_Record_len) rfl, c.def_ 1 (d := dd_l_bag) rfl, c.def_ 2 (d := dd_as_tuples) rfl, c.def_ 3 (d := dd_Record_init) rfl, c.def_ 4 (d := dd_l_lists) rfl, c.def_ 5 (d := dd_Record_entries) rfl, c.def_ 6 (d := dd_Record_end) rfl, c.def_ 7 (d := dd_Record_eq) rfl, c.def_ 8 (d := dd_l_due) rfl, c.def_ 9 (d := dd_l_take) rfl, c.def_ 10 (d := dd_l_one) rfl, c.def_ 11 (d := dd_l_entry) rfl, c.def_ 12 (d := dd_l_end) rfl, c.def_ 13 (d := dd_l_emptied) rfl, c.def_ 14 (d := dd_Record_sites) rfl, c.def_ 15 (d := dd_parted_at) rfl, c.def_ 16 (d := dd_NoFailing_init) rfl, c.def_ 17 (d := dd_Record_left) rfl, c.def_ 18 (d := dd_l_left) rfl, c.def_ 19 (d := dd_l_lefts_hold) rfl, c.def_ 20 (d := dd_law) rfl⟩
end Row
open PySem PySem.W PySem.Calls PyProof.Rows
theorem PySem.Challenge.cw_foundtwice_k38_records_told_holds : PySem.Challenge.rw_foundtwice_k38_records_told.Holds := by
  w_on; o_law
  refine HandSHeadRun.head_any (r := OpenLaw.row PySem.Challenge.rw_foundtwice_k38_records_told) (q := view (OpenLaw.row PySem.Challenge.rw_foundtwice_k38_records_told).prog [19]) (H := Row.hk) (ob := Row.ob) (M := 20000) (loose := Row.loose) (d := HandSHeadRun.topDef (OpenLaw.row PySem.Challenge.rw_foundtwice_k38_records_told).prog 19) (kwd := []) Row.ob_eq
    (by kernel_rfl) (fun s => by kernel_rfl) Row.run (by kernel_rfl) (by kernel_rfl) (by kernel_rfl) (by rfl) (by first | assumption | decide +kernel) (by decide +kernel) ⟨rfl, rfl, rfl, rfl, rfl, by decide +kernel⟩ ?hw ?hc
  case hw => w_witness2
  case hc =>
    refine DL.walk_g (l := PySem.Challenge.rw_foundtwice_k38_records_told) (n := 63) (k := 2 * (40 + 1)) (x := "_law_script") rfl (by decide) (by kernel_rfl) (by kernel_rfl) ⟨⟨rfl, by decide, by decide⟩, rfl⟩ ?F
    intro w mg fa h Y G hmg0
    obtain ⟨K, KX, c⟩ := Y
    have hmg : mg ("law" : PySem.Str) = some (.ref fa) := by
      have e : (HandSHeadRun.topDef (OpenLaw.row PySem.Challenge.rw_foundtwice_k38_records_told).prog 19).name = ("law" : PySem.Str) := by kernel_rfl
      rw [← e]
      exact hmg0
    have T := Row.tx_mk (K := ⟨K, w⟩) KX G c
    have e := hmg.symm.trans T.g_law
    cases e
    obtain ⟨fd, F⟩ := T.d_law
    have b := L2.FunD.bindsA (ps := ["_law_script"]) F fun _ _ _ _ _ _ us hl => match us, hl with | [_], _ => rfl
    exact ⟨K, fd, DL.spD ⟨K, w⟩ (DL.calls (40 + 1) .law), KX, fun s v => b s [v] rfl, fun H a ns hl hS => DL.law_end DL.law_true H a ns hl hS, fun base _ _ hs => Row.ok_law T hs F⟩
