import PyProof.Rows.All
import Wide.All
import OpenK.AllK
import Wide.FinOn
import HandS.ForMost
import HandS.Exc
import HandS.Defaults
import HandS.IsInst
import HandS.Flow
import HandS.Wide
import HandS.Codes
import HandS.TupAny
import HandS.Style
import HandS.CallSlots
import HandS.HeadHook1
import HandS.HeadHook2
import HandS.ExcInit
import HandS.Lambda
import KE.KeyNested
import HandS.Head0
import HandS.Head1
import HandS.Head2
import HandS.HeadEnd
import HandS.More
import HandS.MakeKwOnly
import HandS.Property
import HandS.ClsMeth
import HandS.HeadHook3
import HandS.Strs
import KE.KRevSl
import HandS.HeadNt
import KE.GoesZip
import KE.GoesMore
import KE.GoesEnum
import HandS.Sort
import HandS.RaiseMore
import HandS.Set
import HandS.SetFor
import PyProof.Rows.SortShellAny
import PyProof.Rows.StrMeet
import PyProof.P3Eq
import HandS.OwnEq
import HandS.ExcField
import KE.KExcIs
import HandS.ExcIs
import KE.KCallOwn
import HandS.Conv
import HandS.DictComp
import KE.KOpsOwn
import HandS.TryOnly
import HandS.ListItems
import HandS.DeepEq
import KE.KSortKeySt
import HandS.SortKw
import HandS.FStr
import HandS.Text
import HandS.TryElse
import PyProof.StrBlock2
import HandS.WideBits
import HandS.ExcValue
import KE.KNestM
import PyProof.DictMoreH
import HandS.SetKeys
import HandS.WordsDict
import KE.KStateDown
import Lean
import PySem.Challenge.RW_foundtwice_k44_whole_closure_of_renamed
set_option Elab.async false
set_option linter.all false
set_option maxRecDepth 100000
set_option maxHeartbeats 0
namespace DL
open PySem L2
/-- what is known: the objects of the top, and the world -/
structure Kw where
  K : PySem.W.Frag
  w : World
instance : Coe Kw PySem.W.Frag := ⟨Kw.K⟩
abbrev _root_.L2.Cx.kw (X : Cx) : Kw := ⟨X.K, X.w⟩
abbrev Kw.lookup (K : Kw) (a : Addr) := K.K.lookup a
abbrev Kw.In (K : Kw) (h : Heap) : Prop := K.K.In h
inductive Dv where
  | non | bl (b : Bool) | int (i : Int) | str (x : Str) | tup (l : List Dv) | lst (l : List Dv) | rol (l : List Dv) | dic (l : List (Key × Dv)) | obj (c : Str) (fs : List (Str × Dv)) | hdl (k : Nat) | glo (x : Str) | ty (n : String) | ext (t : Nat) (c : Str) (ns : List Str) (l : List Dv)
inductive Ob where
  | lst (l : List Dv) | dct (l : List (Key × Dv)) | ins (c : Str) (fs : List (Str × Dv)) | ext (t : Nat) (c : Str) (l : List Dv) | dcn (l : List (Dv × Dv))
abbrev Sto := List Ob
inductive Sl where
  | no | va (d : Dv) | own (o : Ob)
abbrev Sl.ow (l : List Dv) : Sl := .own (.lst l)
abbrev Sl.od (l : List (Key × Dv)) : Sl := .own (.dct l)
abbrev Sl.oi (c : Str) (fs : List (Str × Dv)) : Sl := .own (.ins c fs)
abbrev Env := List Sl
/-- a tuple of the top -/
def TK (K : Kw) (a : Addr) (xs : List V) : Prop := (∀ H', SqT K H' a xs) ∧ ∃ o, K.lookup a = some o ∧ o.cls = .type "tuple" ∧ o.dict = none
/-- other things: an exception held as a value (1; 2: without fields), a code object (3) -/
inductive KindE (K : Kw) : Nat → Str → List Str → Addr → List V → List (Addr × HO) → Prop
  | exc {a dx : Addr} {c : Str} {ns : List Str} {vs : List V} : vs.length = ns.length → KindE K 1 c ns a vs [(a, exo a (He.ga K c) (some dx)), (dx, exd dx (ns.zip vs).reverse)]
  | exc0 {a : Addr} {c : Str} : KindE K 2 c [] a [] [(a, exo a (He.ga K c) none)]
  | cod {a : Addr} {c : Str} : KindE K 3 c [] a [] [(a, LamX.CodeO a c)]
  /-- the very address; with what stands there -/
  | pin {a : Addr} {t : Nat} : t = 100 + a → KindE K t "" [] a [] []
  | pnd {a : Addr} {t : Nat} : t = 100 + a → KindE K t "p" [] a [.ref a] []
theorem KindE.nodk {K : Kw} {t : Nat} {c : Str} {ns : List Str} {a : Addr} {vs : List V} {os : List (Addr × HO)} (h : KindE K t c ns a vs os) : ∀ p ∈ os, ∀ kvs, p.2 ≠ .dK kvs := by
  intro p hp kvs
  cases h with
  | exc _ =>
    rcases List.mem_cons.mp hp with rfl | hp
    · unfold exo; exact fun z => nomatch z
    · cases List.mem_singleton.mp hp; unfold exd; exact fun z => nomatch z
  | exc0 => cases List.mem_singleton.mp hp; unfold exo; exact fun z => nomatch z
  | cod => cases List.mem_singleton.mp hp; unfold LamX.CodeO; exact fun z => nomatch z
  | pin _ => cases hp
  | pnd _ => cases hp
/-- the name of a lambda within the def x -/
def lamQ (x : Str) : Str := x ++ ".<locals>." ++ "<lambda>"
/-- the code object of the module's def x, and its table of code objects -/
def codA (K : PySem.W.Frag) (x : Str) : Addr := match K.lookup (He.ga K x) with
  | some ⟨_, _, .func fd, _⟩ => (match fd.code with
    | .ref c => c
    | _ => 0)
  | _ => 0
def tabA (K : PySem.W.Frag) (x : Str) : Addr := match K.lookup (codA K x) with
  | some ⟨_, _, .fields vs, _⟩ => (match (vs[11]? : Option Value) with
    | some (.ref P) => P
    | _ => 0)
  | _ => 0
section
variable (K : Kw) (L : Addr → Prop) (io : List Addr) (H : Hp)
mutual
inductive VR : V → Dv → Prop
  | non : VR .non .non
  | bl (b : Bool) : VR (.bl b) (.bl b)
  | int (i : Int) : VR (.int i) (.int i)
  | str (x : Str) : VR (.str x) (.str x)
  | tup {a : Addr} {xs : List V} {ds : List Dv} : ¬ L a → H a = some (.tup xs) → VRs xs ds → VR (.ref a) (.tup ds)
  | tupK {a : Addr} {xs : List V} {ds : List Dv} : TK K a xs → VRs xs ds → VR (.ref a) (.tup ds)
  | lst {a : Addr} {xs : List V} {ds : List Dv} : ¬ L a → H a = some (.lst xs) → VRs xs ds → VR (.ref a) (.lst ds)
  | rol {a : Addr} {xs : List V} {ds : List Dv} : ¬ L a → Rd H a (.lst xs) → VRs xs ds → VR (.ref a) (.rol ds)
  | rolK {a : Addr} {xs : List V} {ds : List Dv} : (∀ H', SqL K H' a xs) → VRs xs ds → VR (.ref a) (.rol ds)
  | dic {a : Addr} {kvs : List (Key × V)} {l : List (Key × Dv)} : ¬ L a → Rd H a (.dK kvs) → VRp kvs l → VR (.ref a) (.dic l)
  | obj {a dx : Addr} {c : Str} {vs : List (Str × V)} {fs : List (Str × Dv)} : ¬ L a → H a = some (.ins (He.ga K c) dx vs) → VRf vs fs → VR (.ref a) (.obj c fs)
  | hdl {a : Addr} {k : Nat} : io[k]? = some a → VR (.ref a) (.hdl k)
  | glo (x : Str) : VR (.ref (He.ga K x)) (.glo x)
  | ty (n : String) : VR (.ty n) (.ty n)
  | ext {a : Addr} {t : Nat} {c : Str} {ns : List Str} {vs : List V} {ds : List Dv} {os : List (Addr × HO)} : t ≠ 0 → KindE K t c ns a vs os → (∀ p ∈ os, ¬ L p.1 ∧ H p.1 = some p.2) → VRs vs ds → VR (.ref a) (.ext t c ns ds)
inductive VRs : List V → List Dv → Prop
  | nil : VRs [] []
  | cons {v : V} {vs : List V} {d : Dv} {ds : List Dv} : VR v d → VRs vs ds → VRs (v :: vs) (d :: ds)
inductive VRp : List (Key × V) → List (Key × Dv) → Prop
  | nil : VRp [] []
  | cons {k : Key} {v : V} {vs : List (Key × V)} {d : Dv} {ds : List (Key × Dv)} : VR v d → VRp vs ds → VRp ((k, v) :: vs) ((k, d) :: ds)
inductive VRf : List (Str × V) → List (Str × Dv) → Prop
  | nil : VRf [] []
  | cons {k : Str} {v : V} {vs : List (Str × V)} {d : Dv} {ds : List (Str × Dv)} : VR v d → VRf vs ds → VRf ((k, v) :: vs) ((k, d) :: ds)
end
end
/-- from one state to a later one: handles are added, what is new is fresh, what is no handle's stands -/
structure Stp (L : Addr → Prop) (io : List Addr) (H : Hp) (L' : Addr → Prop) (io' : List Addr) (H' : Hp) : Prop where
  pre : ∃ more, io' = io ++ more
  hn : ∀ x ∈ io', x ∈ io ∨ H x = none
  new : ∀ a, L' a → L a ∨ H a = none
  keep : ∀ a o, H a = some o → a ∉ io → H' a = some o
  up : ∀ a, L a → L' a
theorem Stp.refl (L : Addr → Prop) (io : List Addr) (H : Hp) : Stp L io H L io H := ⟨⟨[], by simp⟩, fun _ h => .inl h, fun _ h => .inl h, fun _ _ h _ => h, fun _ h => h⟩
theorem Stp.back {L L1 : Addr → Prop} {io io1 : List Addr} {H H1 : Hp} (a : Stp L io H L1 io1 H1) {x : Addr} (h : H1 x = none) : x ∈ io ∨ H x = none := by
  cases e : H x with
  | none => exact .inr rfl
  | some o =>
    by_cases hx : x ∈ io
    · exact .inl hx
    · rw [a.keep x o e hx] at h
      cases h
theorem Stp.trans {L L1 L2 : Addr → Prop} {io io1 io2 : List Addr} {H H1 H2 : Hp} (a : Stp L io H L1 io1 H1) (b : Stp L1 io1 H1 L2 io2 H2) (sub : ∀ x ∈ io, L x) : Stp L io H L2 io2 H2 where
  pre := by
    obtain ⟨m, rfl⟩ := a.pre
    obtain ⟨m1, rfl⟩ := b.pre
    exact ⟨m ++ m1, by simp⟩
  hn := fun x h => by
    rcases b.hn x h with h1 | h1
    · exact a.hn x h1
    · exact a.back h1
  new := fun x h => by
    rcases b.new x h with h1 | h1
    · exact a.new x h1
    · rcases a.back h1 with z | z
      · exact .inl (sub x z)
      · exact .inr z
  keep := fun x o h hn => by
    refine b.keep x o (a.keep x o h hn) fun hx => ?_
    rcases a.hn x hx with z | z
    · exact hn z
    · rw [z] at h; cases h
  up := fun x h => b.up x (a.up x h)
theorem rd_keep {H H' : Hp} {a : Addr} {u : HO} (r : Rd H a u) (k : ∀ o, H a = some o → H' a = some o) : Rd H' a u := by
  rcases r with r | ⟨o, r⟩
  · exact .inl (k _ r)
  · exact .inr ⟨o, k _ r⟩
theorem rd_some {H : Hp} {a : Addr} {u : HO} (r : Rd H a u) : ∃ o, H a = some o := by
  rcases r with r | ⟨o, r⟩
  · exact ⟨_, r⟩
  · exact ⟨_, r⟩
theorem io_keep {io more : List Addr} {k : Nat} {a : Addr} (h : io[k]? = some a) : (io ++ more)[k]? = some a := by
  have := (List.getElem?_eq_some_iff.mp h).1
  rw [List.getElem?_append_left this]
  exact h
section
variable {K : Kw} {L L' : Addr → Prop} {io io' : List Addr} {H H' : Hp}
/-- the general way on: handles stay, what is not volatile stands and stays not volatile -/
theorem VR.on (hp : ∀ (k : Nat) (a : Addr), io[k]? = some a → io'[k]? = some a) (hl : ∀ a o, H a = some o → ¬ L a → H' a = some o ∧ ¬ L' a) :
    ∀ {v : V} {d : Dv}, VR K L io H v d → VR K L' io' H' v d := by
  intro v d h
  refine VR.rec (motive_1 := fun v d _ => VR K L' io' H' v d) (motive_2 := fun vs ds _ => VRs K L' io' H' vs ds) (motive_3 := fun vs ds _ => VRp K L' io' H' vs ds) (motive_4 := fun vs ds _ => VRf K L' io' H' vs ds) ?_ ?_ ?_ ?_ ?_ ?_ ?_ ?_ ?_ ?_ ?_ ?_ ?_ ?_ ?_ ?_ ?_ ?_ ?_ ?_ ?_ h
  · exact .non
  · exact fun b => .bl b
  · exact fun i => .int i
  · exact fun x => .str x
  · intro a xs ds nl e _ ih
    exact .tup (hl a _ e nl).2 (hl a _ e nl).1 ih
  · exact fun h _ ih => .tupK h ih
  · intro a xs ds nl e _ ih
    exact .lst (hl a _ e nl).2 (hl a _ e nl).1 ih
  · intro a xs ds nl r _ ih
    obtain ⟨o, e⟩ := rd_some r
    exact .rol (hl a o e nl).2 (rd_keep r fun o e => (hl a o e nl).1) ih
  · exact fun h _ ih => .rolK h ih
  · intro a xs ds nl r _ ih
    obtain ⟨o, e⟩ := rd_some r
    exact .dic (hl a o e nl).2 (rd_keep r fun o e => (hl a o e nl).1) ih
  · intro a dx c vs fs nl e _ ih
    exact .obj (hl a _ e nl).2 (hl a _ e nl).1 ih
  · exact fun h => .hdl (hp _ _ h)
  · exact fun x => .glo x
  · exact fun n => .ty n
  · intro a t c ns vs ds os h0 hk ho _ ih
    exact .ext h0 hk (fun p hp => ⟨(hl _ _ (ho p hp).2 (ho p hp).1).2, (hl _ _ (ho p hp).2 (ho p hp).1).1⟩) ih
  · exact .nil
  · exact fun _ _ h1 h2 => .cons h1 h2
  · exact .nil
  · exact fun _ _ h1 h2 => .cons h1 h2
  · exact .nil
  · exact fun _ _ h1 h2 => .cons h1 h2
theorem VRs.on (hp : ∀ (k : Nat) (a : Addr), io[k]? = some a → io'[k]? = some a) (hl : ∀ a o, H a = some o → ¬ L a → H' a = some o ∧ ¬ L' a) :
    ∀ {vs : List V} {ds : List Dv}, VRs K L io H vs ds → VRs K L' io' H' vs ds
  | _, _, .nil => .nil
  | _, _, .cons h t => .cons (VR.on hp hl h) (VRs.on hp hl t)
theorem Stp.on (s : Stp L io H L' io' H') (sub : ∀ x ∈ io, L x) : (∀ (k : Nat) (a : Addr), io[k]? = some a → io'[k]? = some a) ∧ (∀ a o, H a = some o → ¬ L a → H' a = some o ∧ ¬ L' a) := by
  refine ⟨fun k a h => ?_, fun a o h nl => ⟨s.keep a o h fun z => nl (sub a z), fun z => ?_⟩⟩
  · obtain ⟨m, rfl⟩ := s.pre
    exact io_keep h
  · rcases s.new a z with q | q
    · exact nl q
    · rw [q] at h; cases h
theorem VR.step {v : V} {d : Dv} (h : VR K L io H v d) (s : Stp L io H L' io' H') (sub : ∀ x ∈ io, L x) : VR K L' io' H' v d := VR.on (s.on sub).1 (s.on sub).2 h
theorem VRs.step {v : List V} {d : List Dv} (h : VRs K L io H v d) (s : Stp L io H L' io' H') (sub : ∀ x ∈ io, L x) : VRs K L' io' H' v d := VRs.on (s.on sub).1 (s.on sub).2 h
theorem VR.less {v : V} {d : Dv} (h : VR K L io H v d) (hl : ∀ a, L' a → L a) : VR K L' io H v d := VR.on (fun _ _ h => h) (fun a o e n => ⟨e, fun z => n (hl a z)⟩) h
theorem VRs.less {v : List V} {d : List Dv} (h : VRs K L io H v d) (hl : ∀ a, L' a → L a) : VRs K L' io H v d := VRs.on (fun _ _ h => h) (fun a o e n => ⟨e, fun z => n (hl a z)⟩) h
/-- a volatile thing is changed -/
theorem VR.mut {v : V} {d : Dv} {p : Addr} {o : HO} (h : VR K L io H v d) (hp : L p) : VR K L io (upd H p o) v d :=
  VR.on (fun _ _ h => h) (fun a u e n => ⟨by rw [upd_ne (fun z => n (by rw [z]; exact hp))]; exact e, n⟩) h
theorem VRs.mut {v : List V} {d : List Dv} {p : Addr} {o : HO} (h : VRs K L io H v d) (hp : L p) : VRs K L io (upd H p o) v d :=
  VRs.on (fun _ _ h => h) (fun a u e n => ⟨by rw [upd_ne (fun z => n (by rw [z]; exact hp))]; exact e, n⟩) h
theorem VRs.mono (m : ∀ v d, VR K L io H v d → VR K L' io' H' v d) : ∀ {vs : List V} {ds : List Dv}, VRs K L io H vs ds → VRs K L' io' H' vs ds
  | _, _, .nil => .nil
  | _, _, .cons h t => .cons (m _ _ h) (VRs.mono m t)
theorem VRs.len : ∀ {vs : List V} {ds : List Dv}, VRs K L io H vs ds → vs.length = ds.length
  | _, _, .nil => rfl
  | _, _, .cons _ t => by rw [List.length_cons, List.length_cons, VRs.len t]
theorem VRs.get : ∀ {vs : List V} {ds : List Dv} {i : Nat} {d : Dv}, VRs K L io H vs ds → ds[i]? = some d → ∃ v, vs[i]? = some v ∧ VR K L io H v d
  | _, _, _, _, .nil, e => by simp at e
  | _, _, 0, _, .cons h _, e => by simp at e; subst e; exact ⟨_, rfl, h⟩
  | _, _, i + 1, _, .cons _ t, e => by
    obtain ⟨v, h1, h2⟩ := VRs.get (i := i) t (by simpa using e)
    exact ⟨v, by simpa using h1, h2⟩
theorem VRs.app : ∀ {vs ws : List V} {ds es : List Dv}, VRs K L io H vs ds → VRs K L io H ws es → VRs K L io H (vs ++ ws) (ds ++ es)
  | _, _, _, _, .nil, h => h
  | _, _, _, _, .cons h t, h2 => .cons h (VRs.app t h2)
theorem VRs.set {v : V} {d : Dv} (h : VR K L io H v d) : ∀ {vs : List V} {ds : List Dv} (i : Nat), VRs K L io H vs ds → VRs K L io H (vs.set i v) (ds.set i d)
  | _, _, _, .nil => .nil
  | _, _, 0, .cons _ t => .cons h t
  | _, _, i + 1, .cons q t => .cons q (VRs.set h i t)
theorem VRs.take : ∀ {vs : List V} {ds : List Dv} (n : Nat), VRs K L io H vs ds → VRs K L io H (vs.take n) (ds.take n)
  | _, _, 0, _ => .nil
  | _, _, _ + 1, .nil => .nil
  | _, _, n + 1, .cons h t => .cons h (VRs.take n t)
theorem VRs.drop : ∀ {vs : List V} {ds : List Dv} (n : Nat), VRs K L io H vs ds → VRs K L io H (vs.drop n) (ds.drop n)
  | _, _, 0, h => h
  | _, _, _ + 1, .nil => .nil
  | _, _, n + 1, .cons _ t => VRs.drop n t
end
mutual
/-- data as a key -/
def nk : Dv → Option NestedKey
  | .non => some .none
  | .int i => some (.num i)
  | .str x => some (.text x)
  | .tup l => (nks l).map .tup
  | _ => none
def nks : List Dv → Option (List NestedKey)
  | [] => some []
  | d :: l => (nk d).bind fun k => (nks l).map fun ks => k :: ks
end
def nkT (d : Dv) : Option NestedKey := match d with
  | .tup l => (nk (.tup l)).bind fun k => if k.depth ≤ 8 then some k else none
  | _ => none
/-- a dict with such keys -/
def dnO (w : World) (a : Addr) (es : List (NestedKey × Addr × V)) : HO := .ext fun h => (a == sysModules) = false ∧ es.length ≤ sizeLine ∧ (es.map (·.1)).Nodup ∧
  ∃ xs : List (NestedKey × Addr × Value), Paired (fun p x => x.1 = p.1 ∧ x.2.1 = p.2.1 ∧ RelV p.2.2 x.2.2) es xs ∧
  ∃ (o : Obj) (es' : Array DictEntry) (ep : Nat), h.get? a = some o ∧ o.ExactDict ∧ o.data = .dict es' ep ∧ es'.toList = xs.map fun x => ⟨x.1.hash w, .ref x.2.1, x.2.2⟩
def EnR (R : V → Dv → Prop) : List (NestedKey × Addr × V) → List (Dv × Dv) → Prop := Paired fun p q => R (.ref p.2.1) q.1 ∧ nkT q.1 = some p.1 ∧ R p.2.2 q.2
theorem EnR.mono {R R' : V → Dv → Prop} (h : ∀ v d, R v d → R' v d) : ∀ {l : List (NestedKey × Addr × V)} {m : List (Dv × Dv)}, EnR R l m → EnR R' l m
  | _, _, .nil => .nil
  | _, _, .cons r t => .cons ⟨h _ _ r.1, r.2.1, h _ _ r.2.2⟩ (EnR.mono h t)
def PairR {α : Type} (R : V → Dv → Prop) : List (α × V) → List (α × Dv) → Prop := Paired fun p q => p.1 = q.1 ∧ R p.2 q.2
def ObR (K : Kw) (L : Addr → Prop) (io : List Addr) (H : Hp) (a : Addr) : Ob → Prop
  | .lst l => ∃ xs, H a = some (.lst xs) ∧ VRs K L io H xs l
  | .dct l => ∃ kvs, H a = some (.dK kvs) ∧ PairR (VR K L io H) kvs l
  | .ins c fs => ∃ dx vs, H a = some (.ins (He.ga K c) dx vs) ∧ PairR (VR K L io H) vs fs
  | .dcn l => a ∈ io ∧ ∃ es, H a = some (dnO K.w a es) ∧ EnR (VR K L io H) es l
  | .ext _ c _ => a ∈ io ∧ a = tabA K c ∧ ∃ ps : Array Value, H a = some (.tbl ps) ∧ TriplesOk ps.toList ∧ ∀ (pos : Pos) (cv : Value), codeAmong pos ps.toList = some cv → ∃ c', cv = .ref c' ∧ VR K L io H (.ref c') (.ext 3 (lamQ c) [] [])
theorem PairR.mono {α : Type} {R R' : V → Dv → Prop} (h : ∀ v d, R v d → R' v d) : ∀ {l : List (α × V)} {m : List (α × Dv)}, PairR R l m → PairR R' l m
  | _, _, .nil => .nil
  | _, _, .cons r t => .cons ⟨r.1, h _ _ r.2⟩ (PairR.mono h t)
structure SR (K : Kw) (L : Addr → Prop) (io : List Addr) (H : Hp) (S : Sto) : Prop where
  len : io.length = S.length
  nd : io.Nodup
  sub : ∀ a ∈ io, L a
  dom : ∀ a, L a → H a ≠ none
  obj : ∀ (k : Nat) (a : Addr) (o : Ob), io[k]? = some a → S[k]? = some o → ObR K L io H a o
/-- the state of a frame: entered at L0, io0, H0 -/
structure FR (K : Kw) (L0 : Addr → Prop) (io0 : List Addr) (H0 : Hp) (L : Addr → Prop) (io : List Addr) (H : Hp) (g : St) (e : Env) (S : Sto) : Prop where
  st : SR K L io H S
  len : g.length = e.length
  va : ∀ (i : Nat) (d : Dv), e[i]? = some (.va d) → ∃ v, g[i]? = some (some v) ∧ VR K L io H v d
  own : ∀ (i : Nat) (o : Ob), e[i]? = some (.own o) → ∃ p, g[i]? = some (some (.ref p)) ∧ L p ∧ p ∉ io ∧ H0 p = none ∧ ObR K L io H p o
  inj : ∀ (i j : Nat) (p : Addr), i ≠ j → (∀ d, e[i]? ≠ some (.va d)) → (∀ d, e[j]? ≠ some (.va d)) → e[i]? ≠ some .no → e[j]? ≠ some .no → g[i]? = some (some (.ref p)) → g[j]? ≠ some (some (.ref p))
  en : Stp L0 io0 H0 L io H
  sub0 : ∀ a ∈ io0, L0 a
  dom0 : ∀ a, L0 a → H0 a ≠ none
section
variable {K : Kw} {L0 L L' : Addr → Prop} {io0 io io' : List Addr} {H0 H H' : Hp} {g : St} {e : Env} {S S' : Sto}
theorem FR.ow (f : FR K L0 io0 H0 L io H g e S) (i : Nat) (l : List Dv) (h : e[i]? = some (.ow l)) : ∃ p xs, g[i]? = some (some (.ref p)) ∧ L p ∧ p ∉ io ∧ H0 p = none ∧ H p = some (.lst xs) ∧ VRs K L io H xs l := by
  obtain ⟨p, h1, h2, h3, h4, xs, h5, h6⟩ := f.own i _ h
  exact ⟨p, xs, h1, h2, h3, h4, h5, h6⟩
theorem FR.od (f : FR K L0 io0 H0 L io H g e S) (i : Nat) (l : List (Key × Dv)) (h : e[i]? = some (.od l)) : ∃ p kvs, g[i]? = some (some (.ref p)) ∧ L p ∧ p ∉ io ∧ H0 p = none ∧ H p = some (.dK kvs) ∧ PairR (VR K L io H) kvs l := by
  obtain ⟨p, h1, h2, h3, h4, xs, h5, h6⟩ := f.own i _ h
  exact ⟨p, xs, h1, h2, h3, h4, h5, h6⟩
theorem FR.oi (f : FR K L0 io0 H0 L io H g e S) (i : Nat) (c : Str) (fs : List (Str × Dv)) (h : e[i]? = some (.oi c fs)) : ∃ p dx vs, g[i]? = some (some (.ref p)) ∧ L p ∧ p ∉ io ∧ H0 p = none ∧ H p = some (.ins (He.ga K c) dx vs) ∧ PairR (VR K L io H) vs fs := by
  obtain ⟨p, h1, h2, h3, h4, dx, vs, h5, h6⟩ := f.own i _ h
  exact ⟨p, dx, vs, h1, h2, h3, h4, h5, h6⟩
theorem ObR.has {a : Addr} {o : Ob} (h : ObR K L io H a o) : ∃ u, H a = some u := by
  cases o with
  | lst l => exact ⟨_, h.choose_spec.1⟩
  | dct l => exact ⟨_, h.choose_spec.1⟩
  | ins c fs => exact ⟨_, h.choose_spec.choose_spec.1⟩
  | ext t c l => obtain ⟨_, _, ps, e, _⟩ := h; exact ⟨_, e⟩
  | dcn l => obtain ⟨_, es, e, _⟩ := h; exact ⟨_, e⟩
theorem ObR.mono {a : Addr} {o : Ob} (h : ObR K L io H a o) (k : ∀ u, H a = some u → H' a = some u) (m : ∀ v d, VR K L io H v d → VR K L' io' H' v d) : ObR K L' io' H' a o := by
  cases o with
  | lst l =>
    obtain ⟨xs, e, r⟩ := h
    exact ⟨xs, k _ e, r.mono m⟩
  | dct l =>
    obtain ⟨xs, e, r⟩ := h
    exact ⟨xs, k _ e, r.mono m⟩
  | ins c fs =>
    obtain ⟨dx, xs, e, r⟩ := h
    exact ⟨dx, xs, k _ e, r.mono m⟩
  | dcn l =>
    obtain ⟨hi, es, e, r⟩ := h
    obtain ⟨j, hj, he⟩ := List.getElem_of_mem hi
    have q := m (.ref a) (.hdl j) (.hdl (by rw [List.getElem?_eq_getElem hj, he]))
    cases q with
    | hdl q => exact ⟨List.mem_of_getElem? q, es, k _ e, r.mono m⟩
  | ext t c l =>
    obtain ⟨hi, ht, ps, e, r0, r⟩ := h
    obtain ⟨j, hj, he⟩ := List.getElem_of_mem hi
    have q := m (.ref a) (.hdl j) (.hdl (by rw [List.getElem?_eq_getElem hj, he]))
    cases q with
    | hdl q => exact ⟨List.mem_of_getElem? q, ht, ps, k _ e, r0, fun pos cv hc => by
        obtain ⟨c', e1, e2⟩ := r pos cv hc
        exact ⟨c', e1, m _ _ e2⟩⟩
/-- an expression was worked out: the frame stands -/
theorem FR.step (f : FR K L0 io0 H0 L io H g e S) (s : Stp L io H L' io' H') (st : SR K L' io' H' S') : FR K L0 io0 H0 L' io' H' g e S' where
  st := st
  len := f.len
  va := fun i d h => by
    obtain ⟨v, h1, h2⟩ := f.va i d h
    exact ⟨v, h1, h2.step s f.st.sub⟩
  own := fun i o h => by
    obtain ⟨p, h1, h2, h3, h4, h5⟩ := f.own i o h
    obtain ⟨u, h6⟩ := ObR.has (o := o) h5
    refine ⟨p, h1, s.up p h2, fun z => ?_, h4, ObR.mono (o := o) h5 (fun u h => s.keep p u h h3) fun v d r => r.step s f.st.sub⟩
    rcases s.hn p z with q | q
    · exact h3 q
    · rw [q] at h6; cases h6
  inj := f.inj
  en := f.en.trans s f.sub0
  sub0 := f.sub0
  dom0 := f.dom0
end
end DL
namespace DL
open PySem L2
/-- what comes of a piece: a value, an exception of an own class with its fields, or nothing that is known -/
inductive Res (α : Type) where
  | ok (a : α) (S : Sto) | ex (c : Str) (fs : List (Str × Dv)) (S : Sto) | no
abbrev DE := Env → Sto → Res Dv
abbrev DT := Env → Sto → Res Bool
abbrev DA := Env → Sto → Res (List Dv)
def ExR (K : Kw) (L : Addr → Prop) (io : List Addr) (H : Hp) (x : Option Addr) (fs : List (Str × Dv)) : Prop := (x = none ∧ fs = []) ∨ ∃ a vs, x = some a ∧ ¬ L a ∧ H a = some (.xd vs) ∧ PairR (VR K L io H) vs fs
/-- the end of a piece -/
def Fin {α β : Type} (K : Kw) (W : WX) (R : (Addr → Prop) → List Addr → Hp → β → α → Prop) (g : St) (L : Addr → Prop) (io : List Addr) (H : Hp) (Q : β → Hp → Prop) : Res α → Prop
  | .ok d S' => ∀ (v : β) (H' : Hp) (L' : Addr → Prop) (io' : List Addr), Stp L io H L' io' H' → SR K L' io' H' S' → R L' io' H' v d → Q v H'
  | .ex c fs S' => ∀ (x : Option Addr) (H' : Hp) (L' : Addr → Prop) (io' : List Addr), Stp L io H L' io' H' → SR K L' io' H' S' → ExR K L' io' H' x fs → W (.ref (He.ga K c)) x g H'
  | .no => False
/-- the reading of a piece that works out f -/
def Rdg {α β : Type} (K : Kw) (W : WX) (R : (Addr → Prop) → List Addr → Hp → β → α → Prop) (f : Env → Sto → Res α) : St → Hp → (β → Hp → Prop) → Prop := fun g H Q =>
  ∃ (L0 : Addr → Prop) (io0 : List Addr) (H0 : Hp) (L : Addr → Prop) (io : List Addr) (e : Env) (S : Sto), FR K L0 io0 H0 L io H g e S ∧ Fin K W R g L io H Q (f e S)
def rd (K : Kw) (W : WX) (f : DE) : TE := Rdg K W (VR K) f
def rdt (K : Kw) (W : WX) (f : DT) : TT := Rdg K W (fun _ _ _ (v : Bool) d => v = d) f
def rda (K : Kw) (W : WX) (f : DA) : TA := Rdg K W (VRs K) f
abbrev QE (X : Cx) (W : WX) (e : Expr) (f : DE) : Prop := PE X e (rd X.kw W f)
abbrev QT (X : Cx) (W : WX) (e : Expr) (f : DT) : Prop := PT X e (rdt X.kw W f)
abbrev QA (X : Cx) (W : WX) (es : List Expr) (f : DA) : Prop := PA X es (rda X.kw W f)
theorem pe_imp {X : Cx} {e : Expr} {t t' : TE} (h : PE X e t) (i : ∀ g H Q, t' g H Q → t g H Q) : PE X e t' := ⟨fun pins s g H Q I q => h.run pins s g H Q I (i g H Q q)⟩
theorem pt_imp {X : Cx} {e : Expr} {t t' : TT} (h : PT X e t) (i : ∀ g H Q, t' g H Q → t g H Q) : PT X e t' := ⟨fun pins s g H Q I q => h.run pins s g H Q I (i g H Q q)⟩
theorem pw_imp {X : Cx} {e : Expr} {t t' : TT} (h : PW X e t) (i : ∀ g H Q, t' g H Q → t g H Q) : PW X e t' := ⟨fun w pins s g H Q I q => h.run w pins s g H Q I (i g H Q q)⟩
theorem pa_imp {X : Cx} {e : List Expr} {t t' : TA} (h : PA X e t) (i : ∀ g H Q, t' g H Q → t g H Q) : PA X e t' := ⟨fun p pins s g H Q I q => h.run p pins s g H Q I (i g H Q q)⟩
theorem ps_imp {X : Cx} {e : Stmt} {t t' : TS} (h : PS X e t) (i : ∀ D g H, t' D g H → t D g H) : PS X e t' := ⟨fun pins s g H D I q => h.run pins s g H D I (i D g H q)⟩
theorem pss_imp {X : Cx} {e : List Stmt} {t t' : TS} (h : PSs X e t) (i : ∀ D g H, t' D g H → t D g H) : PSs X e t' := ⟨fun pins s g H D I q => h.run pins s g H D I (i D g H q)⟩
section
variable {K : Kw} {L L' : Addr → Prop} {io io' : List Addr} {H H' : Hp} {S S' : Sto} {p : Addr} {o : HO}
theorem SR.fresh (s : SR K L io H S) (hp : H p = none) : ¬ L p := fun z => s.dom p z hp
theorem Stp.alloc (hp : H p = none) : Stp L io H L io (upd H p o) := ⟨⟨[], by simp⟩, fun _ h => .inl h, fun _ h => .inl h, fun a u e _ => by rw [upd_ne (ne_of_none e hp)]; exact e, fun _ h => h⟩
theorem SR.alloc (s : SR K L io H S) (hp : H p = none) : SR K L io (upd H p o) S where
  len := s.len
  nd := s.nd
  sub := s.sub
  dom := fun a ha => by
    by_cases e : a = p
    · rw [e, upd_same]; exact fun z => nomatch z
    · rw [upd_ne e]; exact s.dom a ha
  obj := fun k a ob h1 h2 => (s.obj k a ob h1 h2).mono (fun u e => by rw [upd_ne (ne_of_none e hp)]; exact e) fun v d r => r.step (Stp.alloc hp) s.sub
theorem VR.newT {xs : List V} {ds : List Dv} (s : SR K L io H S) (hp : H p = none) (r : VRs K L io H xs ds) : VR K L io (upd H p (.tup xs)) (.ref p) (.tup ds) :=
  .tup (s.fresh hp) upd_same (r.step (Stp.alloc hp) s.sub)
theorem VR.newL {xs : List V} {ds : List Dv} (s : SR K L io H S) (hp : H p = none) (r : VRs K L io H xs ds) : VR K L io (upd H p (.lst xs)) (.ref p) (.lst ds) :=
  .lst (s.fresh hp) upd_same (r.step (Stp.alloc hp) s.sub)
end
def asL (S : Sto) : Dv → Option (List Dv)
  | .lst l => some l
  | .rol l => some l
  | .hdl k => match S[k]? with
    | some (.lst l) => some l
    | _ => none
  | _ => none
def asT : Dv → Option (List Dv)
  | .tup l => some l
  | _ => none
section
variable {K : Kw} {L : Addr → Prop} {io : List Addr} {H : Hp} {S : Sto} {v : V} {d : Dv} {l : List Dv}
theorem asL_ok (s : SR K L io H S) (r : VR K L io H v d) (h : asL S d = some l) : ∃ a xs, v = .ref a ∧ SqL K H a xs ∧ VRs K L io H xs l := by
  cases r with
  | lst nl e t => cases h; exact ⟨_, _, rfl, SqL.of e, t⟩
  | rol nl e t => cases h; exact ⟨_, _, rfl, .inl e, t⟩
  | rolK e t => cases h; exact ⟨_, _, rfl, e H, t⟩
  | hdl hk =>
    rename_i a k
    cases q : S[k]? with
    | none => simp [asL, q] at h
    | some o =>
      cases o with
      | lst l' =>
        simp [asL, q] at h
        subst h
        obtain ⟨xs, e, t⟩ := s.obj k a _ hk q
        exact ⟨a, xs, rfl, SqL.of e, t⟩
      | _ => simp [asL, q] at h
  | _ => cases h
theorem asT_ok (r : VR K L io H v d) (h : asT d = some l) : ∃ a xs, v = .ref a ∧ SqT K H a xs ∧ VRs K L io H xs l := by
  cases r with
  | tup nl e t => cases h; exact ⟨_, _, rfl, SqT.of e, t⟩
  | tupK e t => cases h; exact ⟨_, _, rfl, e.1 H, t⟩
  | _ => cases h
end
def vwO : Ob → Dv
  | .lst l => .lst l
  | .dct l => .dic l
  | .ins c fs => .obj c fs
  | .ext _ _ _ => .ext 0 "" [] []
  | .dcn _ => .ext 0 "" [] []
def VX (K : Kw) (L : Addr → Prop) (io : List Addr) (H : Hp) (v : V) (d : Dv) : Prop := VR K L io H v d ∨ ∃ p o, v = .ref p ∧ d = vwO o ∧ p ∉ io ∧ ObR K L io H p o
def isV : Dv → Bool
  | .lst _ => true
  | .dic _ => true
  | .obj _ _ => true
  | .ext 0 _ _ _ => true
  | _ => false
section
variable {K : Kw} {L L' : Addr → Prop} {io io' : List Addr} {H H' : Hp} {S : Sto} {v : V} {d : Dv} {l : List Dv}
theorem VX.vr (r : VX K L io H v d) (h : isV d = false) : VR K L io H v d := by
  rcases r with r | ⟨p, o, rfl, rfl, _, _⟩
  · exact r
  · cases o <;> cases h
theorem VX.step (r : VX K L io H v d) (s : Stp L io H L' io' H') (sub : ∀ x ∈ io, L x) : VX K L' io' H' v d := by
  rcases r with r | ⟨p, o, rfl, rfl, np, ob⟩
  · exact .inl (r.step s sub)
  · obtain ⟨u, hu⟩ := ob.has
    refine .inr ⟨p, o, rfl, rfl, fun z => ?_, ob.mono (fun u e => s.keep p u e np) fun v d r => r.step s sub⟩
    rcases s.hn p z with q | q
    · exact np q
    · rw [q] at hu; cases hu
theorem asL_x (s : SR K L io H S) (r : VX K L io H v d) (h : asL S d = some l) : ∃ a xs, v = .ref a ∧ SqL K H a xs ∧ VRs K L io H xs l := by
  rcases r with r | ⟨p, o, rfl, rfl, np, ob⟩
  · exact asL_ok s r h
  · cases o with
    | lst m => cases h; obtain ⟨xs, e, t⟩ := ob; exact ⟨p, xs, rfl, SqL.of e, t⟩
    | _ => cases h
theorem VX.lst (r : VX K L io H v (.lst l)) : ∃ p xs, v = .ref p ∧ H p = some (.lst xs) ∧ VRs K L io H xs l := by
  rcases r with r | ⟨p, o, rfl, e, np, ob⟩
  · cases r with
    | lst n h t => exact ⟨_, _, rfl, h, t⟩
  · cases o with
    | lst m => cases e; obtain ⟨xs, e, t⟩ := ob; exact ⟨p, xs, rfl, e, t⟩
    | _ => cases e
theorem asT_x (r : VX K L io H v d) (h : asT d = some l) : ∃ a xs, v = .ref a ∧ SqT K H a xs ∧ VRs K L io H xs l := asT_ok (r.vr (by cases d <;> first | rfl | cases h)) h
inductive VXs (K : Kw) (L : Addr → Prop) (io : List Addr) (H : Hp) : List V → List Dv → Prop
  | nil : VXs K L io H [] []
  | cons {v : V} {vs : List V} {d : Dv} {ds : List Dv} : VX K L io H v d → VXs K L io H vs ds → VXs K L io H (v :: vs) (d :: ds)
theorem VRs.x : ∀ {vs : List V} {l : List Dv}, VRs K L io H vs l → VXs K L io H vs l
  | _, _, .nil => .nil
  | _, _, .cons h t => .cons (.inl h) t.x
end
abbrev QX (X : Cx) (W : WX) (e : Expr) (f : DE) : Prop := PE X e (Rdg X.kw W (VX X.kw) f)
abbrev QXs (X : Cx) (W : WX) (es : List Expr) (f : DA) : Prop := PA X es (Rdg X.kw W (VXs X.kw) f)
def ofO {α : Type} : Option (α × Sto) → Res α
  | some (a, S) => .ok a S
  | none => .no
def bnd {α β : Type} (x : Res α) (k : α → Sto → Res β) : Res β := match x with
  | .ok a S => k a S
  | .ex c fs S => .ex c fs S
  | .no => .no
@[simp] theorem bnd_ok {α β : Type} (a : α) (S : Sto) (k : α → Sto → Res β) : bnd (.ok a S) k = k a S := rfl
@[simp] theorem ofO_some {α : Type} (a : α) (S : Sto) : ofO (some (a, S)) = .ok a S := rfl
section
variable {X : Cx} {W : WX} {pos : Pos}
def eVar (i : Nat) : DE := fun e S => match e[i]? with
  | some (.va d) => .ok d S
  | _ => .no
def eC (d : Dv) : DE := fun _ S => .ok d S
theorem rd_var {K : Kw} {i : Nat} {g : St} {H : Hp} {Q : VK} (h : rd K W (eVar i) g H Q) : tVar i g H Q := by
  obtain ⟨L0, io0, H0, L, io, e, S, fr, h⟩ := h
  cases q : e[i]? with
  | none => simp only [eVar, q] at h; exact h.elim
  | some sl =>
    cases sl with
    | va d' =>
      simp only [eVar, q] at h
      obtain ⟨v, h1, h2⟩ := fr.va i _ q
      exact ⟨v, h1, h v H L io (Stp.refl ..) fr.st h2⟩
    | _ => simp only [eVar, q] at h; exact h.elim
theorem qe_var (i : Nat) {x : Str} (hN : X.N[i]? = some x := by rfl) (hv : Vis X.env.scope x := by first | exact Or.inl rfl | exact Or.inr (Or.inl rfl) | exact Or.inr (Or.inr rfl)) (hd : (x == ("__debug__" : Str)) = false := by decide)
    (hcd : (x == ("__classdict__" : Str)) = false := by decide) : QE X W (.Name x pos) (eVar i) := pe_imp (pe_var hN hv hd hcd) fun _ _ _ h => rd_var h
theorem rd_C {K : Kw} {d : Dv} {v : V} {g : St} {H : Hp} {Q : VK} (r : ∀ L io, VR K L io H v d) (h : rd K W (eC d) g H Q) : tC v g H Q := by
  obtain ⟨L0, io0, H0, L, io, e, S, fr, h⟩ := h
  exact h v H L io (Stp.refl ..) fr.st (r _ _)
theorem qe_int {i : Int} {j} : QE X W (.Constant (.int i) j pos) (eC (.int i)) := pe_imp pe_int fun _ _ _ h => rd_C (fun _ _ => .int i) h
theorem qe_bl {b : Bool} {j} : QE X W (.Constant (.bool b) j pos) (eC (.bl b)) := pe_imp pe_bl fun _ _ _ h => rd_C (fun _ _ => .bl b) h
theorem qe_str {x : Str} {j} : QE X W (.Constant (.str x) j pos) (eC (.str x)) := pe_imp pe_str fun _ _ _ h => rd_C (fun _ _ => .str x) h
end
section
variable {K : Kw} {W : WX} {α α' β β' γ : Type} {R : (Addr → Prop) → List Addr → Hp → β → α → Prop} {R' : (Addr → Prop) → List Addr → Hp → β' → α' → Prop}
theorem Fin.later {g : St} {L L1 : Addr → Prop} {io io1 : List Addr} {H H1 : Hp} {Q : β' → Hp → Prop} {r : Res α'} (h : Fin K W R' g L io H Q r) (s : Stp L io H L1 io1 H1) (sub : ∀ x ∈ io, L x) : Fin K W R' g L1 io1 H1 Q r := by
  cases r with
  | ok d S' => exact fun v H' L' io' s2 sr r2 => h v H' L' io' (s.trans s2 sub) sr r2
  | ex c fs S' => exact fun v H' L' io' s2 sr r2 => h v H' L' io' (s.trans s2 sub) sr r2
  | no => exact h
/-- the next part of a piece is worked out; the rest goes on -/
theorem Fin.bind {f : Env → Sto → Res α} {k : α → Sto → Res α'} {g : St} {L0 L : Addr → Prop} {io0 io : List Addr} {H0 H : Hp} {e : Env} {S : Sto} {Q : β' → Hp → Prop} {P : β → Hp → Prop}
    (fr : FR K L0 io0 H0 L io H g e S) (h : Fin K W R' g L io H Q (bnd (f e S) k))
    (n : ∀ (L1 : Addr → Prop) (io1 : List Addr) (H1 : Hp) (S1 : Sto) (a : α) (v : β), Stp L io H L1 io1 H1 → FR K L0 io0 H0 L1 io1 H1 g e S1 → R L1 io1 H1 v a → Fin K W R' g L1 io1 H1 Q (k a S1) → P v H1) : Rdg K W R f g H P := by
  refine ⟨L0, io0, H0, L, io, e, S, fr, ?_⟩
  cases hf : f e S with
  | ok a S1 =>
    rw [hf] at h
    intro v H1 L1 io1 s1 sr1 r1
    exact n L1 io1 H1 S1 a v s1 (fr.step s1 sr1) r1 (Fin.later (L := L) (io := io) (H := H) h s1 fr.st.sub)
  | ex c fs S1 =>
    rw [hf] at h
    exact h
  | no =>
    rw [hf] at h
    exact h
/-- the first part of a piece -/
theorem Rdg.bind {f : Env → Sto → Res α} {k : Env → α → Sto → Res α'} {g : St} {H : Hp} {Q : β' → Hp → Prop} {P : β → Hp → Prop}
    (h : Rdg K W R' (fun e S => bnd (f e S) (k e)) g H Q)
    (n : ∀ (L0 : Addr → Prop) (io0 : List Addr) (H0 : Hp) (L : Addr → Prop) (io : List Addr) (H1 : Hp) (e : Env) (S : Sto) (a : α) (v : β), FR K L0 io0 H0 L io H1 g e S → R L io H1 v a → Fin K W R' g L io H1 Q (k e a S) → P v H1) : Rdg K W R f g H P := by
  obtain ⟨L0, io0, H0, L, io, e, S, fr, h⟩ := h
  exact Fin.bind (k := k e) fr h fun L1 io1 H1 S1 a v _ fr1 r1 q => n L0 io0 H0 L1 io1 H1 e S1 a v fr1 r1 q
theorem Fin.ok1 {g : St} {L : Addr → Prop} {io : List Addr} {H : Hp} {Q : β' → Hp → Prop} {d : α'} {S : Sto} (h : Fin K W R' g L io H Q (.ok d S)) (sr : SR K L io H S) {v : β'} (r : R' L io H v d) : Q v H := h v H L io (Stp.refl ..) sr r
theorem Fin.rdg {f : Env → Sto → Res α'} {g : St} {L0 L : Addr → Prop} {io0 io : List Addr} {H0 H : Hp} {Q : β' → Hp → Prop} {e : Env} {S : Sto} (fr : FR K L0 io0 H0 L io H g e S) (h : Fin K W R' g L io H Q (f e S)) : Rdg K W R' f g H Q :=
  ⟨L0, io0, H0, L, io, e, S, fr, h⟩
end
theorem Rdg.weaken {K : Kw} {W : WX} {α β : Type} {R R' : (Addr → Prop) → List Addr → Hp → β → α → Prop} (h : ∀ L io H v d, R' L io H v d → R L io H v d) {f : Env → Sto → Res α} {g : St} {H : Hp} {Q : β → Hp → Prop} (q : Rdg K W R f g H Q) : Rdg K W R' f g H Q := by
  obtain ⟨L0, io0, H0, L, io, e, S, fr, q⟩ := q
  refine ⟨L0, io0, H0, L, io, e, S, fr, ?_⟩
  cases hf : f e S with
  | ok d S' => rw [hf] at q; exact fun v H' L' io' s sr r => q v H' L' io' s sr (h _ _ _ _ _ r)
  | ex c fs S' => rw [hf] at q; exact q
  | no => rw [hf] at q; exact q
/-- r serves what h gives -/
def OpS (K : Kw) (r : R2) (h : Sto → Dv → Dv → Option (Dv × Sto)) : Prop :=
  ∀ (L : Addr → Prop) (io : List Addr) (H : Hp) (S : Sto) (x y : V) (a b d : Dv) (S' : Sto) (Q : VK), SR K L io H S → VX K L io H x a → VX K L io H y b → h S a b = some (d, S') →
    (∀ (v : V) (H' : Hp) (L' : Addr → Prop) (io' : List Addr), Stp L io H L' io' H' → SR K L' io' H' S' → VR K L' io' H' v d → Q v H') → r x y H Q
theorem Fin.opt {α' β' : Type} {K : Kw} {W : WX} {R' : (Addr → Prop) → List Addr → Hp → β' → α' → Prop} {g : St} {L : Addr → Prop} {io : List Addr} {H : Hp} {Q : β' → Hp → Prop} {o : Option (α' × Sto)} (h : Fin K W R' g L io H Q (ofO o)) :
    ∃ d S', o = some (d, S') ∧ ∀ (v : β') (H' : Hp) (L' : Addr → Prop) (io' : List Addr), Stp L io H L' io' H' → SR K L' io' H' S' → R' L' io' H' v d → Q v H' := by
  cases o with
  | none => exact h.elim
  | some p => exact ⟨p.1, p.2, rfl, h⟩
def eBin (h : Sto → Dv → Dv → Option (Dv × Sto)) (f1 f2 : DE) : DE := fun e S => bnd (f1 e S) fun a S1 => bnd (f2 e S1) fun b S2 => ofO (h S2 a b)
theorem rd_bin {K : Kw} {W : WX} {r : R2} {h : Sto → Dv → Dv → Option (Dv × Sto)} {f1 f2 : DE} (ho : OpS K r h) {g : St} {H : Hp} {Q : VK} (q : rd K W (eBin h f1 f2) g H Q) : tOp r (Rdg K W (VX K) f1) (Rdg K W (VX K) f2) g H Q := by
  refine Rdg.bind (R := VX K) (k := fun e a S1 => bnd (f2 e S1) fun b S2 => ofO (h S2 a b)) q fun L0 io0 H0 L io H1 e S a v fr ra q => ?_
  refine Fin.bind (R := VX K) (k := fun b S2 => ofO (h S2 a b)) fr q fun L2 io2 H2 S2 b w s2 fr2 rb q => ?_
  obtain ⟨d, S3, h1, h2⟩ := q.opt
  exact ho L2 io2 H2 S2 v w a b d S3 Q fr2.st (ra.step s2 fr.st.sub) rb h1 h2
section
variable {X : Cx} {W : WX} {pos : Pos} {a b : Expr} {f f1 f2 : DE} {r : R2} {h : Sto → Dv → Dv → Option (Dv × Sto)}
theorem qx (ha : QE X W a f) : QX X W a f := pe_imp ha fun g H Q q => q.weaken fun _ _ _ _ _ r => .inl r
theorem qe_op {op : Operator} (ho : OpR X (binaryOp op) r) (hs : OpS X.kw r h) (ha : QX X W a f1) (hb : QX X W b f2) : QE X W (.BinOp a op b pos) (eBin h f1 f2) := pe_imp (pe_op ho ha hb) fun _ _ _ q => rd_bin hs q
theorem qe_cmp {op : CmpOp} (ho : OpR X (compareOp op) r) (hs : OpS X.kw r h) (ha : QX X W a f1) (hb : QX X W b f2) (hm : behindInMarks op b = false := by first | exact nomark _ | rfl) : QE X W (.Compare a [op] [b] pos) (eBin h f1 f2) := pe_imp (pe_cmpR ho ha hb hm) fun _ _ _ q => rd_bin hs q
/-- an expression whose value is a truth, as a test -/
def blD : Dv → Sto → Res Bool
  | .bl b, S => .ok b S
  | _, _ => .no
def tVal (f : DE) : DT := fun e S => bnd (f e S) blD
theorem rd_tval {K : Kw} {f : DE} {g : St} {H : Hp} {Q : Bool → Hp → Prop} (q : rdt K W (tVal f) g H Q) : tTest (rd K W f) g H Q := by
  refine Rdg.bind (R := VR K) (k := fun _ => blD) q fun L0 io0 H0 L io H1 e S a v fr ra q => ?_
  cases ra with
  | bl b => exact ⟨_, rfl, q.ok1 fr.st rfl⟩
  | _ => exact q.elim
theorem qt_cmp {op : CmpOp} (ho : OpR X (compareOp op) r) (hs : OpS X.kw r h) (ha : QX X W a f1) (hb : QX X W b f2) (hm : behindInMarks op b = false := by first | exact nomark _ | rfl) : QT X W (.Compare a [op] [b] pos) (tVal (eBin h f1 f2)) :=
  pt_imp (pt_cmpR ho ha hb hm) fun g H Q q => by
    have z := rd_tval q
    exact (show tTest (tOp r (Rdg X.kw W (VX X.kw) f1) (Rdg X.kw W (VX X.kw) f2)) g H Q from rd_bin hs z)
end
end DL
namespace DL
open PySem L2
def pu2 (h : Dv → Dv → Option Dv) : Sto → Dv → Dv → Option (Dv × Sto) := fun S a b => (h a b).map fun d => (d, S)
theorem pu2_ok {h : Dv → Dv → Option Dv} {S S' : Sto} {a b d : Dv} (e : pu2 h S a b = some (d, S')) : h a b = some d ∧ S' = S := by
  unfold pu2 at e
  cases q : h a b with
  | none => rw [q] at e; cases e
  | some z => rw [q] at e; cases e; exact ⟨rfl, rfl⟩
def iop (g : Int → Int → Option Dv) : Dv → Dv → Option Dv
  | .int i, .int j => g i j
  | _, _ => none
/-- an operator of two ints -/
theorem ops_int {K : Kw} {C : Int → Int → Prop} {gv : Int → Int → V} {g : Int → Int → Option Dv} (hg : ∀ i j d, g i j = some d → C i j ∧ ∀ L io H, VR K L io H (gv i j) d) : OpS K (rI C gv) (pu2 (iop g)) := by
  intro L io H S x y a b d S' Q sr ra rb e0 q
  obtain ⟨e, rfl⟩ := pu2_ok e0
  clear e0
  cases a with
  | int i =>
    cases b with
    | int j =>
      cases ra.vr rfl; cases rb.vr rfl
      obtain ⟨hc, r⟩ := hg i j d e
      exact ⟨i, j, rfl, rfl, hc, q _ H L io (Stp.refl ..) sr (r _ _ _)⟩
    | _ => cases e
  | _ => cases e
theorem ops_int0 {K : Kw} {gv : Int → Int → V} {g : Int → Int → Dv} (hg : ∀ i j L io H, VR K L io H (gv i j) (g i j)) : OpS K (rI0 gv) (pu2 (iop fun i j => some (g i j))) := by
  intro L io H S x y a b d S' Q sr ra rb e0 q
  obtain ⟨e, rfl⟩ := pu2_ok e0
  clear e0
  cases a with
  | int i =>
    cases b with
    | int j =>
      cases ra.vr rfl; cases rb.vr rfl
      cases e
      exact ⟨i, j, rfl, rfl, q _ H L io (Stp.refl ..) sr (hg _ _ _ _ _)⟩
    | _ => cases e
  | _ => cases e
def subD : Dv → Dv → Option Dv := iop fun i j => some (.int (i - j))
def mulD : Dv → Dv → Option Dv := iop fun i j => if (-(2 ^ 64) < i ∧ i < 2 ^ 64) ∨ (-(2 ^ 64) < j ∧ j < 2 ^ 64) then some (.int (i * j)) else none
def modD : Dv → Dv → Option Dv := iop fun i j => if 0 < j then some (.int (i % j)) else none
def fdivD : Dv → Dv → Option Dv := iop fun i j => if 0 < j ∧ j < 1073741824 then some (.int (i / j)) else none
def ltD : Dv → Dv → Option Dv := iop fun i j => some (.bl (decide (i < j)))
def leD : Dv → Dv → Option Dv := iop fun i j => some (.bl (decide (i ≤ j)))
def gtD : Dv → Dv → Option Dv := iop fun i j => some (.bl (decide (j < i)))
def geD : Dv → Dv → Option Dv := iop fun i j => some (.bl (decide (j ≤ i)))
section
variable {X : Cx} {W : WX} {pos : Pos} {a b : Expr} {f1 f2 : DE}
theorem qe_sub (ha : QX X W a f1) (hb : QX X W b f2) : QE X W (.BinOp a .Sub b pos) (eBin (pu2 subD) f1 f2) := qe_op op_sub (ops_int0 fun _ _ _ _ _ => .int _) ha hb
theorem qe_mul (ha : QX X W a f1) (hb : QX X W b f2) : QE X W (.BinOp a .Mult b pos) (eBin (pu2 mulD) f1 f2) := qe_op op_mul (ops_int fun i j d e => by
  split at e
  · rename_i h; cases e; exact ⟨h, fun _ _ _ => .int _⟩
  · cases e) ha hb
theorem qe_mod (ha : QX X W a f1) (hb : QX X W b f2) : QE X W (.BinOp a .Mod b pos) (eBin (pu2 modD) f1 f2) := qe_op op_mod (ops_int fun i j d e => by
  split at e
  · rename_i h; cases e; exact ⟨h, fun _ _ _ => .int _⟩
  · cases e) ha hb
theorem qe_fdiv (ha : QX X W a f1) (hb : QX X W b f2) : QE X W (.BinOp a .FloorDiv b pos) (eBin (pu2 fdivD) f1 f2) := qe_op op_fdiv (ops_int fun i j d e => by
  split at e
  · rename_i h; cases e; exact ⟨h, fun _ _ _ => .int _⟩
  · cases e) ha hb
theorem qe_gt (ha : QX X W a f1) (hb : QX X W b f2) : QE X W (.Compare a [.Gt] [b] pos) (eBin (pu2 gtD) f1 f2) := qe_cmp op_gt (ops_int0 fun _ _ _ _ _ => .bl _) ha hb
theorem qt_lt (ha : QX X W a f1) (hb : QX X W b f2) : QT X W (.Compare a [.Lt] [b] pos) (tVal (eBin (pu2 ltD) f1 f2)) := qt_cmp op_lt (ops_int0 fun _ _ _ _ _ => .bl _) ha hb
theorem qt_gt (ha : QX X W a f1) (hb : QX X W b f2) : QT X W (.Compare a [.Gt] [b] pos) (tVal (eBin (pu2 gtD) f1 f2)) := qt_cmp op_gt (ops_int0 fun _ _ _ _ _ => .bl _) ha hb
theorem qt_ge (ha : QX X W a f1) (hb : QX X W b f2) : QT X W (.Compare a [.GtE] [b] pos) (tVal (eBin (pu2 geD) f1 f2)) := qt_cmp op_ge (ops_int0 fun _ _ _ _ _ => .bl _) ha hb
end
def rAddA (K : Kw) : R2 := fun x y H Q => rI0 (fun i j => .int (i + j)) x y H Q ∨ (∃ i j, x = .str i ∧ y = .str j ∧ i.length + j.length ≤ sizeLine ∧ Q (.str (i ++ j)) H) ∨ rCatA K x y H Q ∨ rCat x y H Q
theorem op_addA {X : Cx} : OpR X (binaryOp .Add) (rAddA X.kw) := op_add.or (op_add_str.or (op_catA.or op_cat))
def asH (S : Sto) : Dv → Option (List Dv)
  | .lst l => some l
  | .hdl k => match S[k]? with
    | some (.lst l) => some l
    | _ => none
  | _ => none
theorem asH_x {K : Kw} {L : Addr → Prop} {io : List Addr} {H : Hp} {S : Sto} {v : V} {d : Dv} {l : List Dv} (s : SR K L io H S) (r : VX K L io H v d) (h : asH S d = some l) : ∃ a xs, v = .ref a ∧ H a = some (.lst xs) ∧ VRs K L io H xs l := by
  cases d with
  | lst m => cases h; exact r.lst
  | hdl k =>
    cases q : S[k]? with
    | none => simp [asH, q] at h
    | some o =>
      cases o with
      | lst m =>
        simp [asH, q] at h
        subst h
        cases r.vr rfl with
        | hdl hk =>
          obtain ⟨xs, e, t⟩ := s.obj k _ _ hk q
          exact ⟨_, xs, rfl, e, t⟩
      | _ => simp [asH, q] at h
  | _ => cases h
def addD : Sto → Dv → Dv → Option (Dv × Sto)
  | S, .int i, .int j => some (.int (i + j), S)
  | S, .str x, .str y => if x.length + y.length ≤ sizeLine then some (.str (x ++ y), S) else none
  | S, .tup l, .tup m => if l.length + m.length ≤ sizeLine then some (.tup (l ++ m), S) else none
  | S, .lst l, b => (asH S b).bind fun m => if l.length + m.length ≤ sizeLine then some (.lst (l ++ m), S) else none
  | S, .hdl k, b => (asH S (.hdl k)).bind fun l => (asH S b).bind fun m => if l.length + m.length ≤ sizeLine then some (.lst (l ++ m), S) else none
  | _, _, _ => none
theorem VR.tupS {K : Kw} {L : Addr → Prop} {io : List Addr} {H : Hp} {v : V} {l : List Dv} (r : VR K L io H v (.tup l)) : ∃ a xs, v = .ref a ∧ SqT K H a xs ∧ VRs K L io H xs l := asT_ok r rfl
theorem VRs.nil_iff {K : Kw} {L : Addr → Prop} {io : List Addr} {H : Hp} {vs : List V} {l : List Dv} (r : VRs K L io H vs l) : vs = [] ↔ l = [] := by
  cases r <;> simp
theorem ops_add {K : Kw} : OpS K (rAddA K) addD := by
  intro L io H S x y a b d S' Q sr ra rb e q
  have lst : ∀ l, asH S a = some l → ((asH S b).bind fun m => if l.length + m.length ≤ sizeLine then some (Dv.lst (l ++ m), S) else none) = some (d, S') → rAddA K x y H Q := by
    intro l h1 e
    cases h : asH S b with
    | none => rw [h] at e; cases e
    | some m =>
      rw [h] at e
      simp only [Option.bind_some] at e
      split at e
      · rename_i hl
        cases e
        obtain ⟨p1, xs, rfl, e1, r1⟩ := asH_x sr ra h1
        obtain ⟨p2, ys, rfl, e2, r2⟩ := asH_x sr rb h
        exact .inr (.inr (.inr ⟨_, _, _, _, rfl, rfl, e1, e2, by rw [r1.len, r2.len]; exact hl, fun p hp => q _ _ L io (Stp.alloc hp) (sr.alloc hp) (VR.newL sr hp (r1.app r2))⟩))
      · cases e
  cases a with
  | int i =>
    cases b with
    | int j =>
      cases e; cases ra.vr rfl; cases rb.vr rfl
      exact .inl ⟨i, j, rfl, rfl, q _ H L io (Stp.refl ..) sr (.int _)⟩
    | _ => cases e
  | str i =>
    cases b with
    | str j =>
      simp only [addD] at e
      split at e
      · rename_i h
        cases e; cases ra.vr rfl; cases rb.vr rfl
        exact .inr (.inl ⟨i, j, rfl, rfl, h, q _ H L io (Stp.refl ..) sr (.str _)⟩)
      · cases e
    | _ => cases e
  | tup l =>
    cases b with
    | tup m =>
      simp only [addD] at e
      split at e
      · rename_i h
        cases e
        obtain ⟨p1, xs, rfl, s1, r1⟩ := (ra.vr rfl).tupS
        obtain ⟨p2, ys, rfl, s2, r2⟩ := (rb.vr rfl).tupS
        refine .inr (.inr (.inl ⟨p1, p2, xs, ys, rfl, rfl, s1, s2, by rw [r1.len, r2.len]; exact h, fun h0 => ?_, fun h0 h1 => ?_, fun _ _ p hp => ?_⟩))
        · have : l = [] := r1.nil_iff.mp h0
          subst this
          exact q _ H L io (Stp.refl ..) sr (rb.vr rfl)
        · have : m = [] := r2.nil_iff.mp h1
          subst this
          rw [List.append_nil] at q
          exact q _ H L io (Stp.refl ..) sr (ra.vr rfl)
        · exact q _ _ L io (Stp.alloc hp) (sr.alloc hp) (VR.newT sr hp (r1.app r2))
      · cases e
    | _ => cases e
  | lst l =>
    have e' : ((asH S b).bind fun m => if l.length + m.length ≤ sizeLine then some (Dv.lst (l ++ m), S) else none) = some (d, S') := by cases b <;> exact e
    exact lst l rfl e'
  | hdl k =>
    have e' : ((asH S (.hdl k)).bind fun l => (asH S b).bind fun m => if l.length + m.length ≤ sizeLine then some (Dv.lst (l ++ m), S) else none) = some (d, S') := by cases b <;> exact e
    cases h : asH S (.hdl k) with
    | none => rw [h] at e'; cases e'
    | some l => rw [h] at e'; exact lst l h e'
  | _ => cases e
theorem qe_add {X : Cx} {W : WX} {pos : Pos} {a b : Expr} {f1 f2 : DE} (ha : QX X W a f1) (hb : QX X W b f2) : QE X W (.BinOp a .Add b pos) (eBin addD f1 f2) := qe_op op_addA ops_add ha hb
mutual
def toP : Dv → Option PyData
  | .non => some .none
  | .bl b => some (.bool b)
  | .int i => some (.int i)
  | .str x => some (.str x)
  | .tup l => (toPs l).map .tuple
  | .lst l => (toPs l).map .list
  | .rol l => (toPs l).map .list
  | .dic _ => none
  | .obj _ _ => none
  | .hdl _ => none
  | .glo _ => none
  | .ty _ => none
  | .ext _ _ _ _ => none
def toPs : List Dv → Option (List PyData)
  | [] => some []
  | d :: l => (toP d).bind fun p => (toPs l).map fun ps => p :: ps
end
/-- handles as they stand now -/
def deref : Nat → Sto → Dv → Dv
  | 0, _, d => d
  | n + 1, S, .hdl k => match S[k]? with
    | some (.lst l) => .lst (l.map (deref n S))
    | some (.dct l) => .dic (l.map fun q => (q.1, deref n S q.2))
    | _ => .hdl k
  | n + 1, S, .tup l => .tup (l.map (deref n S))
  | n + 1, S, .lst l => .lst (l.map (deref n S))
  | n + 1, S, .rol l => .rol (l.map (deref n S))
  | n + 1, S, .dic l => .dic (l.map fun q => (q.1, deref n S q.2))
  | _ + 1, _, d => d
section
variable {K : Kw} {L : Addr → Prop} {io : List Addr} {H : Hp} {S : Sto}
mutual
theorem toP_ok : ∀ (d : Dv) (v : V) (p : PyData), VR K L io H v d → toP d = some p → Dp K H v p
  | .non, v, p, r, e => by cases r; cases e; exact .non
  | .bl b, v, p, r, e => by cases r; cases e; exact .bl b
  | .int b, v, p, r, e => by cases r; cases e; exact .int b
  | .str b, v, p, r, e => by cases r; cases e; exact .str b
  | .tup l, v, p, r, e => by
    obtain ⟨a, xs, rfl, s, t⟩ := r.tupS
    simp only [toP] at e
    cases q : toPs l with
    | none => rw [q] at e; cases e
    | some ps => rw [q] at e; cases e; exact .tup s (toPs_ok l xs ps t q)
  | .lst l, v, p, r, e => by
    simp only [toP] at e
    cases q : toPs l with
    | none => rw [q] at e; cases e
    | some ps =>
      rw [q] at e; cases e
      cases r with
      | lst n h t => exact .lst (SqL.of h) (toPs_ok l _ ps t q)
  | .rol l, v, p, r, e => by
    simp only [toP] at e
    cases q : toPs l with
    | none => rw [q] at e; cases e
    | some ps =>
      rw [q] at e; cases e
      cases r with
      | rol n h t => exact .lst (.inl h) (toPs_ok l _ ps t q)
      | rolK h t => exact .lst (h H) (toPs_ok l _ ps t q)
  | .dic k, v, p, r, e => by simp [toP] at e
  | .obj c k, v, p, r, e => by simp [toP] at e
  | .hdl k, v, p, r, e => by simp [toP] at e
  | .glo k, v, p, r, e => by simp [toP] at e
  | .ty k, v, p, r, e => by simp [toP] at e
  | .ext _ _ _ _, v, p, r, e => by simp [toP] at e
theorem toPs_ok : ∀ (l : List Dv) (vs : List V) (ps : List PyData), VRs K L io H vs l → toPs l = some ps → DpAll K H vs ps
  | [], vs, ps, r, e => by cases r; simp [toPs] at e; subst e; exact .nil
  | d :: l, vs, ps, r, e => by
    cases r with
    | cons h t =>
      simp only [toPs] at e
      cases q : toP d with
      | none => rw [q] at e; cases e
      | some p =>
        rw [q] at e
        cases q2 : toPs l with
        | none => rw [q2] at e; cases e
        | some ps' =>
          rw [q2] at e
          cases e
          exact .cons (toP_ok d _ p h q) (toPs_ok l _ ps' t q2)
end
theorem deref_all (n : Nat) (ih : ∀ (d : Dv) (v : V) (p : PyData), VR K L io H v d → toP (deref n S d) = some p → Dp K H v p) : ∀ (l : List Dv) (vs : List V) (ps : List PyData), VRs K L io H vs l → toPs (l.map (deref n S)) = some ps → DpAll K H vs ps
  | [], vs, ps, r, e => by cases r; simp [toPs] at e; subst e; exact .nil
  | d :: l, vs, ps, r, e => by
    cases r with
    | cons h t =>
      simp only [toPs, List.map_cons] at e
      cases q : toP (deref n S d) with
      | none => rw [q] at e; cases e
      | some p =>
        rw [q] at e
        cases q2 : toPs (l.map (deref n S)) with
        | none => rw [q2] at e; cases e
        | some ps' =>
          rw [q2] at e
          cases e
          exact .cons (ih d _ p h q) (deref_all n ih l _ ps' t q2)
theorem deref_dp (sr : SR K L io H S) : ∀ (n : Nat) (d : Dv) (v : V) (p : PyData), VR K L io H v d → toP (deref n S d) = some p → Dp K H v p
  | 0, d, v, p, r, e => toP_ok d v p r e
  | n + 1, .tup l, v, p, r, e => by
    obtain ⟨a, xs, rfl, s, t⟩ := r.tupS
    simp only [deref, toP] at e
    cases q : toPs (l.map (deref n S)) with
    | none => rw [q] at e; cases e
    | some ps => rw [q] at e; cases e; exact .tup s (deref_all n (deref_dp sr n) l xs ps t q)
  | n + 1, .lst l, v, p, r, e => by
    simp only [deref, toP] at e
    cases q : toPs (l.map (deref n S)) with
    | none => rw [q] at e; cases e
    | some ps =>
      rw [q] at e; cases e
      cases r with
      | lst nl h t => exact .lst (SqL.of h) (deref_all n (deref_dp sr n) l _ ps t q)
  | n + 1, .rol l, v, p, r, e => by
    simp only [deref, toP] at e
    cases q : toPs (l.map (deref n S)) with
    | none => rw [q] at e; cases e
    | some ps =>
      rw [q] at e; cases e
      cases r with
      | rol nl h t => exact .lst (.inl h) (deref_all n (deref_dp sr n) l _ ps t q)
      | rolK h t => exact .lst (h H) (deref_all n (deref_dp sr n) l _ ps t q)
  | n + 1, .hdl k, v, p, r, e => by
    cases q0 : S[k]? with
    | none => simp only [deref, q0, toP] at e; cases e
    | some o =>
      cases o with
      | lst l =>
        simp only [deref, q0, toP] at e
        cases q : toPs (l.map (deref n S)) with
        | none => rw [q] at e; cases e
        | some ps =>
          rw [q] at e; cases e
          cases r with
          | hdl hk =>
            obtain ⟨xs, h, t⟩ := sr.obj k _ _ hk q0
            exact .lst (SqL.of h) (deref_all n (deref_dp sr n) l xs ps t q)
      | dct l => simp only [deref, q0, toP] at e; cases e
      | ins c fs => simp only [deref, q0, toP] at e; cases e
      | ext _ _ _ => simp only [deref, q0, toP] at e; cases e
      | dcn _ => simp only [deref, q0, toP] at e; cases e
  | n + 1, .non, v, p, r, e => toP_ok _ v p r e
  | n + 1, .bl _, v, p, r, e => toP_ok _ v p r e
  | n + 1, .int _, v, p, r, e => toP_ok _ v p r e
  | n + 1, .str _, v, p, r, e => toP_ok _ v p r e
  | n + 1, .dic _, v, p, r, e => by simp [deref, toP] at e
  | n + 1, .obj _ _, v, p, r, e => toP_ok _ v p r e
  | n + 1, .glo _, v, p, r, e => toP_ok _ v p r e
  | n + 1, .ty _, v, p, r, e => toP_ok _ v p r e
  | n + 1, .ext _ _ _ _, v, p, r, e => toP_ok _ v p r e
/-- as a whole -/
def res (S : Sto) (d : Dv) : Dv := deref 40 S d
theorem res_dp (sr : SR K L io H S) {v : V} {d : Dv} {p : PyData} (r : VX K L io H v d) (e : toP (res S d) = some p) : Dp K H v p := by
  rcases r with r | ⟨a, o, rfl, rfl, np, ob⟩
  · exact deref_dp sr 40 d v p r e
  · cases o with
    | lst l =>
      simp only [vwO, res, deref, toP] at e
      cases q : toPs (l.map (deref 39 S)) with
      | none => rw [q] at e; cases e
      | some ps =>
        rw [q] at e; cases e
        obtain ⟨xs, h, t⟩ := ob
        exact .lst (SqL.of h) (deref_all 39 (deref_dp sr 39) l xs ps t q)
    | dct l => simp [vwO, res, deref, toP] at e
    | ins c fs => simp [vwO, res, deref, toP] at e
    | ext _ _ _ => simp [vwO, res, deref, toP] at e
    | dcn _ => simp [vwO, res, deref, toP] at e
end
/-- two lists of unlike lengths -/
def lenNe : Option (List Dv) → Option (List Dv) → Bool
  | some l, some m => l.length != m.length
  | _, _ => false
def deepE (S : Sto) (a b : Dv) : Option Bool := (toP (res S a)).bind fun p => (toP (res S b)).bind fun q => if SeqAt.shaped p && SeqAt.shaped q then some (PyData.eqv p q) else none
def eqD (S : Sto) : Dv → Dv → Option Bool
  | .str x, .str y => some (decide (x = y))
  | .int x, .int y => some (decide (x = y))
  | .bl x, .bl y => some (decide (x = y))
  | .non, .non => some true
  | .non, .int _ => some false
  | .non, .bl _ => some false
  | .non, .str _ => some false
  | .int _, .non => some false
  | .int _, .str _ => some false
  | .bl _, .non => some false
  | .bl _, .str _ => some false
  | .str _, .non => some false
  | .str _, .int _ => some false
  | .str _, .bl _ => some false
  | a, b => if lenNe (asL S a) (asL S b) then some false else deepE S a b
def eqE : Sto → Dv → Dv → Option (Dv × Sto) := fun S a b => (eqD S a b).map fun c => (.bl c, S)
def neE : Sto → Dv → Dv → Option (Dv × Sto) := fun S a b => (eqD S a b).map fun c => (.bl (!c), S)
/-- two lists of unlike lengths -/
def rLen (K : Kw) (b : Bool) : R2 := fun x y H Q => ∃ p q xs ys, x = .ref p ∧ y = .ref q ∧ SqL K H p xs ∧ SqL K H q ys ∧ xs.length ≠ ys.length ∧ Q (.bl b) H
theorem op_eqLen {X : Cx} (hu : X.A.units < cLine) : OpR X (compareOp .Eq) (rLen X.kw false) := by
  rintro pins s σ H x y v u Q I rx ry ⟨p, q, xs, ys, rfl, rfl, h1, h2, hl, z⟩
  cases rx; cases ry
  obtain ⟨its, r1, l1, _⟩ := I.list h1
  obtain ⟨its2, r2, l2, _⟩ := I.list h2
  refine SeqAt.eq_list_lengthsAt l1.isList l2.isList ?_ hu ⟨.bl _, H, I, rfl, z⟩
  rw [List.size_toArray, List.size_toArray, ← r1.length, ← r2.length]
  simpa using hl
theorem op_neLen {X : Cx} (hu : X.A.units < cLine) : OpR X (compareOp .NotEq) (rLen X.kw true) := by
  rintro pins s σ H x y v u Q I rx ry ⟨p, q, xs, ys, rfl, rfl, h1, h2, hl, z⟩
  cases rx; cases ry
  obtain ⟨its, r1, l1, _⟩ := I.list h1
  obtain ⟨its2, r2, l2, _⟩ := I.list h2
  refine SeqAt.RcNeAt.lists_lengths l1.isList l2.isList ?_ hu _ _ _ _ ⟨.bl _, H, I, rfl, z⟩
  rw [List.size_toArray, List.size_toArray, ← r1.length, ← r2.length]
  simpa using hl
def rEqA (K : Kw) : R2 := fun x y H Q => (rEq x y H Q ∨ rEqD K x y H Q) ∨ rLen K false x y H Q
def rNeA (K : Kw) : R2 := fun x y H Q => (rNe x y H Q ∨ rNeD K x y H Q) ∨ rLen K true x y H Q
theorem eqD_deep {S : Sto} {a b : Dv} {c : Bool} (e : eqD S a b = some c) : (∃ x y : V, scal x y = true ∧ c = decide (x = y) ∧ ∀ (K : Kw) L io H v w, VX K L io H v a → VX K L io H w b → v = x ∧ w = y) ∨ (∃ p q, toP (res S a) = some p ∧ toP (res S b) = some q ∧ SeqAt.shaped p = true ∧ SeqAt.shaped q = true ∧ c = PyData.eqv p q) ∨ ∃ l m, asL S a = some l ∧ asL S b = some m ∧ l.length ≠ m.length ∧ c = false := by
  have deep : (if lenNe (asL S a) (asL S b) then some false else deepE S a b) = some c → (∃ p q, toP (res S a) = some p ∧ toP (res S b) = some q ∧ SeqAt.shaped p = true ∧ SeqAt.shaped q = true ∧ c = PyData.eqv p q) ∨ ∃ l m, asL S a = some l ∧ asL S b = some m ∧ l.length ≠ m.length ∧ c = false := by
    intro e
    split at e
    · rename_i hl
      cases e
      cases h1 : asL S a with
      | none => rw [h1] at hl; cases hl
      | some l =>
        cases h2 : asL S b with
        | none => rw [h1, h2] at hl; cases hl
        | some m => rw [h1, h2] at hl; exact .inr ⟨l, m, rfl, rfl, by simpa [lenNe] using hl, rfl⟩
    · unfold deepE at e
      cases h1 : toP (res S a) with
      | none => rw [h1] at e; cases e
      | some p =>
        cases h2 : toP (res S b) with
        | none => rw [h1, h2] at e; cases e
        | some q =>
          rw [h1, h2] at e
          simp only [Option.bind_some] at e
          split at e
          · rename_i hs
            simp only [Bool.and_eq_true] at hs
            cases e
            exact .inl ⟨p, q, rfl, rfl, hs.1, hs.2, rfl⟩
          · cases e
  cases a <;> cases b <;> first
    | exact .inr (deep e)
    | (refine .inl ⟨_, _, ?_, ?_, fun K L io H v w r1 r2 => by cases r1.vr rfl; cases r2.vr rfl; exact ⟨rfl, rfl⟩⟩
       · rfl
       · cases e; first
          | rfl
          | (simp))
theorem ops_eq {K : Kw} : OpS K (rEqA K) eqE := by
  intro L io H S x y a b d S' Q sr ra rb e q
  unfold eqE at e
  cases h : eqD S a b with
  | none => rw [h] at e; cases e
  | some c =>
    rw [h] at e; cases e
    have fin := q (.bl c) H L io (Stp.refl ..) sr (.bl c)
    rcases eqD_deep h with ⟨x', y', h1, rfl, h3⟩ | ⟨p, p', h1, h2, h3, h4, rfl⟩ | ⟨l, m, h1, h2, h3, rfl⟩
    · obtain ⟨rfl, rfl⟩ := h3 K L io H x y ra rb
      exact .inl (.inl ⟨h1, fin⟩)
    · exact .inl (.inr ⟨p, p', res_dp sr ra h1, res_dp sr rb h2, h3, h4, fin⟩)
    · obtain ⟨p, xs, rfl, s1, t1⟩ := asL_x sr ra h1
      obtain ⟨q, ys, rfl, s2, t2⟩ := asL_x sr rb h2
      exact .inr ⟨p, q, xs, ys, rfl, rfl, s1, s2, by rw [t1.len, t2.len]; exact h3, fin⟩
theorem ops_ne {K : Kw} : OpS K (rNeA K) neE := by
  intro L io H S x y a b d S' Q sr ra rb e q
  unfold neE at e
  cases h : eqD S a b with
  | none => rw [h] at e; cases e
  | some c =>
    rw [h] at e; cases e
    have fin := q (.bl (!c)) H L io (Stp.refl ..) sr (.bl _)
    rcases eqD_deep h with ⟨x', y', h1, rfl, h3⟩ | ⟨p, p', h1, h2, h3, h4, rfl⟩ | ⟨l, m, h1, h2, h3, rfl⟩
    · obtain ⟨rfl, rfl⟩ := h3 K L io H x y ra rb
      exact .inl (.inl ⟨h1, fin⟩)
    · exact .inl (.inr ⟨p, p', res_dp sr ra h1, res_dp sr rb h2, h3, h4, fin⟩)
    · obtain ⟨p, xs, rfl, s1, t1⟩ := asL_x sr ra h1
      obtain ⟨q, ys, rfl, s2, t2⟩ := asL_x sr rb h2
      exact .inr ⟨p, q, xs, ys, rfl, rfl, s1, s2, by rw [t1.len, t2.len]; exact h3, fin⟩
section
variable {X : Cx} {W : WX} {pos : Pos} {a b : Expr} {f1 f2 : DE} {k : Nat}
theorem op_eqA (hr : Room k X.A) : OpR X (compareOp .Eq) (rEqA X.kw) := (op_eq.or (op_eqD hr.units)).or (op_eqLen hr.units0)
theorem op_neA (hr : Room k X.A) : OpR X (compareOp .NotEq) (rNeA X.kw) := (op_ne.or (op_neD hr.units)).or (op_neLen hr.units0)
theorem qe_eq (hr : Room k X.A) (ha : QX X W a f1) (hb : QX X W b f2) : QE X W (.Compare a [.Eq] [b] pos) (eBin eqE f1 f2) := qe_cmp (op_eqA hr) ops_eq ha hb
theorem qt_eq (hr : Room k X.A) (ha : QX X W a f1) (hb : QX X W b f2) : QT X W (.Compare a [.Eq] [b] pos) (tVal (eBin eqE f1 f2)) := qt_cmp (op_eqA hr) ops_eq ha hb
theorem qt_ne (hr : Room k X.A) (ha : QX X W a f1) (hb : QX X W b f2) : QT X W (.Compare a [.NotEq] [b] pos) (tVal (eBin neE f1 f2)) := qt_cmp (op_neA hr) ops_ne ha hb
end
def asQ (S : Sto) (d : Dv) : Option (List Dv) := match asT d with
  | some l => some l
  | none => asL S d
theorem asQ_x {K : Kw} {L : Addr → Prop} {io : List Addr} {H : Hp} {S : Sto} {v : V} {d : Dv} {l : List Dv} (s : SR K L io H S) (r : VX K L io H v d) (h : asQ S d = some l) : ∃ a xs, v = .ref a ∧ (SqL K H a xs ∨ SqT K H a xs) ∧ VRs K L io H xs l := by
  unfold asQ at h
  cases q : asT d with
  | some m =>
    rw [q] at h; cases h
    obtain ⟨a, xs, h1, h2, h3⟩ := asT_x r q
    exact ⟨a, xs, h1, .inr h2, h3⟩
  | none =>
    rw [q] at h
    obtain ⟨a, xs, h1, h2, h3⟩ := asL_x s r h
    exact ⟨a, xs, h1, .inl h2, h3⟩
def isD (neg : Bool) : Dv → Dv → Option Dv
  | a, .non => some (.bl (match a with
    | .non => !neg
    | _ => neg))
  | .bl x, .bl y => some (.bl (if neg then !decide (x = y) else decide (x = y)))
  | _, _ => none
theorem ops_is {K : Kw} : OpS K (fun x y H Q => (y = .non ∧ Q (.bl (decide (x = .non))) H) ∨ rIsB x y H Q) (pu2 (isD false)) := by
  intro L io H S x y a b d S' Q sr ra rb e q
  obtain ⟨e, rfl⟩ := pu2_ok e
  cases b with
  | non =>
    cases e; cases rb.vr rfl
    refine .inl ⟨rfl, ?_⟩
    have := q _ H L io (Stp.refl ..) sr (.bl _)
    rcases ra with ra | ⟨p, o, rfl, rfl, _⟩
    · cases ra <;> exact this
    · cases o <;> exact this
  | bl z =>
    cases a with
    | bl y =>
      cases e; cases ra.vr rfl; cases rb.vr rfl
      exact .inr ⟨y, z, rfl, rfl, q _ H L io (Stp.refl ..) sr (.bl _)⟩
    | _ => cases e
  | _ => cases a <;> cases e
section
variable {X : Cx} {W : WX} {pos : Pos} {a b : Expr} {f1 f2 : DE}
theorem qe_is (ha : QX X W a f1) (hb : QX X W b f2) : QE X W (.Compare a [.Is] [b] pos) (eBin (pu2 (isD false)) f1 f2) := qe_cmp (op_isN.or op_isBl) ops_is ha hb
end
end DL
namespace DL
open PySem L2
def truD (S : Sto) : Dv → Option Bool
  | .non => some false
  | .bl b => some b
  | .int i => some (i != 0)
  | .str x => if x.length ≤ sizeLine then some ((x.length : Int) != 0) else none
  | .tup l => some (!l.isEmpty)
  | .lst l => some (!l.isEmpty)
  | .rol l => some (!l.isEmpty)
  | .dic l => some (!l.isEmpty)
  | .hdl k => match S[k]? with
    | some (.lst l) => some (!l.isEmpty)
    | some (.dct l) => some (!l.isEmpty)
    | _ => none
  | _ => none
/-- a value's truth, of a locked dict, too -/
def TruW (K : Kw) (x : V) (H : Hp) (k : Bool) : Prop := TruV K x H k ∨ ∃ p kvs, x = .ref p ∧ Rd H p (.dK kvs) ∧ k = !kvs.isEmpty
theorem truW_ok {X : Cx} : TruR X (fun x H Q => ∃ k, TruW X.kw x H k ∧ Q k H) := by
  intro pins s σ H x v Q I rx ⟨k, e, q⟩
  rcases e with e | ⟨p, kvs, rfl, hx, rfl⟩
  · exact tru_ok pins s σ H x v Q I rx ⟨k, e, q⟩
  · cases rx
    have hl := line63
    have hs : sizeLine = 16777216 := sizeLine_eq
    obtain ⟨hz, hS, vs, r, m⟩ := dk_rd I.hok hx
    have hlen : kvs.length = vs.length := Paired.length r
    exact wpAny_truthy_dict hS m (by omega) ⟨H, I.tok _, by rw [isEmpty_kv r]; exact q⟩
open PySem.Spec PyProof.Rows in
theorem pt_truthW {X : Cx} {a : Expr} {ta : TE} (ha : PE X a ta) (he : ∀ whole, isTrue a X.env whole = (do let v ← whole; standAt a.pos; holding [v] (truthy v))) :
    PT X a (fun σ H Q => ta σ H fun x H' => ∃ k, TruW X.kw x H' k ∧ Q k H') := by
  refine ⟨fun pins s σ H Q I h => ?_⟩
  exact isTrue_plain (thn (ha.run pins s σ H _ I h) fun v s1 ⟨x, H1, I1, r1, q1⟩ => truW_ok pins s1 σ H1 x v Q I1 r1 q1) (he _)
section
variable {X : Cx} {a b : Expr} {ta tb : TE} {rest : List Expr} {pos : Pos}
def tOrW (K : Kw) (ta tb : TE) : TE := fun σ H Q => ta σ H fun x H1 => ∃ k, TruW K x H1 k ∧ if k = true then Q x H1 else tb σ H1 Q
def tAndW (K : Kw) (ta tb : TE) : TE := fun σ H Q => ta σ H fun x H1 => ∃ k, TruW K x H1 k ∧ if k = true then tb σ H1 Q else Q x H1
open PySem.Spec PyProof.Rows in
theorem pe_orW (ha : PE X a ta) (hb : PE X (.BoolOp .Or (b :: rest) pos) tb) : PE X (.BoolOp .Or (a :: b :: rest) pos) (tOrW X.kw ta tb) := by
  refine ⟨fun pins s σ H Q I h => ?_⟩
  refine BoolOp_or (thn (ha.run pins s σ H _ I h) fun v s1 ⟨x, H1, I1, r1, q1⟩ => ?_)
  obtain ⟨k, e, q1⟩ := q1
  refine thn (truW_ok pins s1 σ H1 x v (fun c H2 => c = k ∧ H2 = H1) I1 r1 ⟨k, e, rfl, rfl⟩) fun c s2 hc => ?_
  obtain ⟨H2, I2, e1, e2⟩ := hc
  rw [e2] at I2
  rw [← e1] at q1
  cases c with
  | true => exact ⟨x, H1, I2, r1, q1⟩
  | false => exact hb.run pins s2 σ H1 Q I2 q1
open PySem.Spec PyProof.Rows in
theorem pe_andW (ha : PE X a ta) (hb : PE X (.BoolOp .And (b :: rest) pos) tb) : PE X (.BoolOp .And (a :: b :: rest) pos) (tAndW X.kw ta tb) := by
  refine ⟨fun pins s σ H Q I h => ?_⟩
  refine BoolOp_and (thn (ha.run pins s σ H _ I h) fun v s1 ⟨x, H1, I1, r1, q1⟩ => ?_)
  obtain ⟨k, e, q1⟩ := q1
  refine thn (truW_ok pins s1 σ H1 x v (fun c H2 => c = k ∧ H2 = H1) I1 r1 ⟨k, e, rfl, rfl⟩) fun c s2 hc => ?_
  obtain ⟨H2, I2, e1, e2⟩ := hc
  rw [e2] at I2
  rw [← e1] at q1
  cases c with
  | true => exact hb.run pins s2 σ H1 Q I2 q1
  | false => exact ⟨x, H1, I2, r1, q1⟩
def tNotW (K : Kw) (ta : TE) : TE := fun σ H Q => ta σ H fun x H1 => ∃ k, TruW K x H1 k ∧ Q (.bl (!k)) H1
open PySem.Spec PyProof.Rows in
theorem pe_notW (ha : PE X a ta) : PE X (.UnaryOp .Not a pos) (tNotW X.kw ta) := by
  refine ⟨fun pins s σ H Q I h => ?_⟩
  refine UnaryOp_ (thn (ha.run pins s σ H _ I h) fun v s1 ⟨x, H1, I1, r1, q1⟩ => ?_)
  obtain ⟨k, e, q1⟩ := q1
  exact not_of (thn (truW_ok pins s1 σ H1 x v (fun c H2 => Q (.bl (!c)) H2) I1 r1 ⟨k, e, q1⟩) fun c s2 ⟨H2, I2, q2⟩ => ⟨.bl (!c), H2, I2, rfl, q2⟩)
end
section
variable {K : Kw} {L : Addr → Prop} {io : List Addr} {H : Hp} {S : Sto}
theorem VRs.empty {vs : List V} {l : List Dv} (r : VRs K L io H vs l) : vs.isEmpty = l.isEmpty := by cases r <;> rfl
theorem PairR.len {α : Type} {R : V → Dv → Prop} : ∀ {l : List (α × V)} {m : List (α × Dv)}, PairR R l m → l.length = m.length
  | _, _, .nil => rfl
  | _, _, .cons _ t => by rw [List.length_cons, List.length_cons, PairR.len t]
theorem truD_ok0 (s : SR K L io H S) {v : V} {d : Dv} {b : Bool} (rx : VX K L io H v d) (hd : ∀ l, d ≠ .dic l) (e : truD S d = some b) : TruV K v H b := by
  have seq : ∀ {l : List Dv}, asL S d = some l → b = !l.isEmpty → TruV K v H b := fun h eb => by
    obtain ⟨a, xs, rfl, h1, h2⟩ := asL_x s rx h
    exact .inl ⟨xs, h1, by rw [h2.empty]; exact eb⟩
  cases d with
  | non => cases rx.vr rfl; cases e; rfl
  | bl => cases rx.vr rfl; cases e; rfl
  | int => cases rx.vr rfl; cases e; rfl
  | str x =>
    cases rx.vr rfl
    simp only [truD] at e
    split at e
    · rename_i h; cases e; exact ⟨h, rfl⟩
    · cases e
  | tup l =>
    obtain ⟨a, xs, rfl, h1, h2⟩ := (rx.vr rfl).tupS
    cases e
    exact .inr (.inl ⟨xs, h1, by rw [h2.empty]⟩)
  | lst l => cases e; exact seq rfl rfl
  | rol l => cases e; exact seq rfl rfl
  | dic l => exact absurd rfl (hd l)
  | hdl k =>
    have r := rx.vr rfl
    cases q : S[k]? with
    | none => simp [truD, q] at e
    | some o =>
      cases o with
      | lst l =>
        simp [truD, q] at e
        exact seq (l := l) (by simp [asL, q]) (by rw [e]; simp)
      | dct l =>
        simp [truD, q] at e
        cases r with
        | hdl hk =>
          obtain ⟨kvs, h1, h2⟩ := s.obj k _ _ hk q
          refine .inr (.inr ⟨kvs, h1, ?_⟩)
          have e2 : kvs.isEmpty = l.isEmpty := by cases h2 <;> rfl
          rw [e2, e]
          simp
      | ins => simp [truD, q] at e
      | ext => simp [truD, q] at e
      | dcn => simp [truD, q] at e
  | _ => simp [truD] at e
theorem truD_ok (s : SR K L io H S) {v : V} {d : Dv} {b : Bool} (rx : VX K L io H v d) (e : truD S d = some b) : TruW K v H b := by
  cases d with
  | dic l =>
    cases e
    rcases rx with r | ⟨p, o, rfl, h, np, ob⟩
    · cases r with
      | dic n h t =>
        refine .inr ⟨_, _, rfl, h, ?_⟩
        cases t <;> rfl
    · cases o with
      | dct m =>
        cases h
        obtain ⟨kvs, h1, h2⟩ := ob
        refine .inr ⟨p, kvs, rfl, .inl h1, ?_⟩
        cases h2 <;> rfl
      | _ => cases h
  | _ => exact .inl (truD_ok0 s rx (fun l z => nomatch z) e)
end
def truR (a : Dv) (S : Sto) : Res Bool := ofO ((truD S a).map fun b => (b, S))
def tTru (f : DE) : DT := fun e S => bnd (f e S) truR
theorem map_ok {α β : Type} {o : Option α} {f : α → β} {b : β} (h : o.map f = some b) : ∃ a, o = some a ∧ f a = b := by
  cases o with
  | none => cases h
  | some a => exact ⟨a, rfl, Option.some.inj h⟩
section
variable {X : Cx} {W : WX} {pos : Pos} {a b c : Expr} {f f1 f2 : DE} {t1 t2 : DT} {rest : List Expr}
theorem qt_tru (ha : QX X W a f) (he : ∀ whole, isTrue a X.env whole = (do let v ← whole; standAt a.pos; holding [v] (truthy v)) := by intro _; rfl) : QT X W a (tTru f) :=
  pt_imp (pt_truthW ha he) fun g H Q q => by
    refine Rdg.bind (R := VX X.kw) (k := fun _ => truR) q fun L0 io0 H0 L io H1 e S d v fr rv q => ?_
    obtain ⟨d, S', h1, h2⟩ := q.opt
    obtain ⟨b, h3, h4⟩ := map_ok h1
    cases h4
    exact ⟨_, truD_ok fr.st rv h3, h2 _ H1 L io (Stp.refl ..) fr.st rfl⟩
/-- and, or, not as tests -/
def tAnd' (t1 t2 : DT) : DT := fun e S => bnd (t1 e S) fun b S1 => if b then t2 e S1 else .ok false S1
def tOr' (t1 t2 : DT) : DT := fun e S => bnd (t1 e S) fun b S1 => if b then .ok true S1 else t2 e S1
def tNot' (t1 : DT) : DT := fun e S => bnd (t1 e S) fun b S1 => .ok (!b) S1
theorem rd_and {K : Kw} {g : St} {H : Hp} {Q : Bool → Hp → Prop} (q : rdt K W (tAnd' t1 t2) g H Q) : tAnd (rdt K W t1) (rdt K W t2) g H Q := by
  refine Rdg.bind (R := fun _ _ _ (v : Bool) d => v = d) (k := fun e b S1 => if b then t2 e S1 else .ok false S1) q fun L0 io0 H0 L io H1 e S d v fr rv q => ?_
  subst rv
  cases v with
  | true => exact (iteT (Fin.rdg fr q))
  | false => exact (iteF (q.ok1 fr.st rfl))
theorem rd_or {K : Kw} {g : St} {H : Hp} {Q : Bool → Hp → Prop} (q : rdt K W (tOr' t1 t2) g H Q) : tOr (rdt K W t1) (rdt K W t2) g H Q := by
  refine Rdg.bind (R := fun _ _ _ (v : Bool) d => v = d) (k := fun e b S1 => if b then .ok true S1 else t2 e S1) q fun L0 io0 H0 L io H1 e S d v fr rv q => ?_
  subst rv
  cases v with
  | true => exact (iteT (q.ok1 fr.st rfl))
  | false => exact (iteF (Fin.rdg fr q))
abbrev QW (X : Cx) (W : WX) (e : Expr) (f : DT) : Prop := PW X e (rdt X.kw W f)
theorem qw_and1 (ha : QT X W a t1) : QW X W (.BoolOp .And [a] pos) t1 := pw_and1 ha
theorem qw_or1 (ha : QT X W a t1) : QW X W (.BoolOp .Or [a] pos) t1 := pw_or1 ha
theorem qw_and (ha : QT X W a t1) (hb : QW X W (.BoolOp .And (b :: rest) pos) t2) : QW X W (.BoolOp .And (a :: b :: rest) pos) (tAnd' t1 t2) := pw_imp (pw_and ha hb) fun _ _ _ q => rd_and q
theorem qw_or (ha : QT X W a t1) (hb : QW X W (.BoolOp .Or (b :: rest) pos) t2) : QW X W (.BoolOp .Or (a :: b :: rest) pos) (tOr' t1 t2) := pw_imp (pw_or ha hb) fun _ _ _ q => rd_or q
theorem qt_w (h : QW X W a t1) : QT X W a t1 := PW.pt h
theorem qt_not (ha : QT X W a t1) : QT X W (.UnaryOp .Not a pos) (tNot' t1) := pt_imp (pt_not ha) fun g H Q q => by
  refine Rdg.bind (R := fun _ _ _ (v : Bool) d => v = d) (k := fun e b S1 => .ok (!b) S1) q fun L0 io0 H0 L io H1 e S d v fr rv q => ?_
  subst rv
  exact q.ok1 fr.st rfl
/-- a if t else b -/
def eIf (t : DT) (f1 f2 : DE) : DE := fun e S => bnd (t e S) fun b S1 => if b then f1 e S1 else f2 e S1
theorem qe_if (hc : QT X W c t1) (ha : QE X W a f1) (hb : QE X W b f2) : QE X W (.IfExp c a b pos) (eIf t1 f1 f2) := pe_imp (pe_ifExp hc ha hb) fun g H Q q => by
  refine Rdg.bind (R := fun _ _ _ (v : Bool) d => v = d) (k := fun e b S1 => if b then f1 e S1 else f2 e S1) q fun L0 io0 H0 L io H1 e S d v fr rv q => ?_
  subst rv
  cases v with
  | true => exact (iteT (Fin.rdg fr q))
  | false => exact (iteF (Fin.rdg fr q))
/-- and, or, not as values -/
def eAnd (f1 f2 : DE) : DE := fun e S => bnd (f1 e S) fun a S1 => bnd (truR a S1) fun k S2 => if k then f2 e S2 else .ok a S2
def eOr (f1 f2 : DE) : DE := fun e S => bnd (f1 e S) fun a S1 => bnd (truR a S1) fun k S2 => if k then .ok a S2 else f2 e S2
def eNot (f1 : DE) : DE := fun e S => bnd (f1 e S) fun a S1 => bnd (truR a S1) fun k S2 => .ok (.bl (!k)) S2
theorem Fin.tru {α' β' : Type} {K : Kw} {R' : (Addr → Prop) → List Addr → Hp → β' → α' → Prop} {g : St} {L : Addr → Prop} {io : List Addr} {H : Hp} {Q : β' → Hp → Prop} {k : Bool → Sto → Res α'} {a : Dv} {v : V} {S : Sto} (h : Fin K W R' g L io H Q (bnd (truR a S) k)) (sr : SR K L io H S) (r : VR K L io H v a) :
    ∃ b, TruW K v H b ∧ Fin K W R' g L io H Q (k b S) := by
  unfold truR at h
  cases q : truD S a with
  | none => rw [q] at h; exact h.elim
  | some b => rw [q] at h; exact ⟨b, truD_ok sr (.inl r) q, h⟩
theorem qe_one {op} (h : QE X W a f) : QE X W (.BoolOp op [a] pos) f := pe_one h
theorem qe_and (ha : QE X W a f1) (hb : QE X W (.BoolOp .And (b :: rest) pos) f2) : QE X W (.BoolOp .And (a :: b :: rest) pos) (eAnd f1 f2) := pe_imp (pe_andW ha hb) fun g H Q q => by
  refine Rdg.bind (R := VR X.kw) (k := fun e a S1 => bnd (truR a S1) fun k S2 => if k then f2 e S2 else .ok a S2) q fun L0 io0 H0 L io H1 e S d v fr rv q => ?_
  obtain ⟨k, h1, q⟩ := q.tru fr.st rv
  refine ⟨k, h1, ?_⟩
  cases k with
  | true => exact (iteT (Fin.rdg fr q))
  | false => exact (iteF (q.ok1 fr.st rv))
theorem qe_or (ha : QE X W a f1) (hb : QE X W (.BoolOp .Or (b :: rest) pos) f2) : QE X W (.BoolOp .Or (a :: b :: rest) pos) (eOr f1 f2) := pe_imp (pe_orW ha hb) fun g H Q q => by
  refine Rdg.bind (R := VR X.kw) (k := fun e a S1 => bnd (truR a S1) fun k S2 => if k then .ok a S2 else f2 e S2) q fun L0 io0 H0 L io H1 e S d v fr rv q => ?_
  obtain ⟨k, h1, q⟩ := q.tru fr.st rv
  refine ⟨k, h1, ?_⟩
  cases k with
  | true => exact (iteT (q.ok1 fr.st rv))
  | false => exact (iteF (Fin.rdg fr q))
theorem qe_not (ha : QE X W a f1) : QE X W (.UnaryOp .Not a pos) (eNot f1) := pe_imp (pe_notW ha) fun g H Q q => by
  refine Rdg.bind (R := VR X.kw) (k := fun e a S1 => bnd (truR a S1) fun k S2 => .ok (Dv.bl (!k)) S2) q fun L0 io0 H0 L io H1 e S d v fr rv q => ?_
  obtain ⟨k, h1, q⟩ := q.tru fr.st rv
  exact ⟨k, h1, q.ok1 fr.st (.bl _)⟩
variable {es : List Expr} {fa : DA}
def aNil : DA := fun _ S => .ok [] S
def aCons (f : DE) (fa : DA) : DA := fun e S => bnd (f e S) fun d S1 => bnd (fa e S1) fun l S2 => .ok (d :: l) S2
theorem qa_nil : QA X W [] aNil := pa_imp pa_nil fun g H Q q => by
  obtain ⟨L0, io0, H0, L, io, e, S, fr, q⟩ := q
  exact q.ok1 fr.st .nil
theorem qa_cons (ha : QE X W a f) (hr : QA X W es fa) (hs : starEach (a :: es) X.env = (false, eval a X.env) :: starEach es X.env := by rfl) : QA X W (a :: es) (aCons f fa) := pa_imp (pa_cons ha hr hs) fun g H Q q => by
  refine Rdg.bind (R := VR X.kw) (k := fun e d S1 => bnd (fa e S1) fun l S2 => .ok (d :: l) S2) q fun L0 io0 H0 L io H1 e S d v fr rv q => ?_
  refine Fin.bind (R := VRs X.kw) (k := fun l S2 => .ok (d :: l) S2) fr q fun L2 io2 H2 S2 l w s2 fr2 rw2 q => ?_
  exact q.ok1 fr2.st (.cons (rv.step s2 fr.st.sub) rw2)
def tupR (l : List Dv) (S : Sto) : Res Dv := if l.length ≤ sizeLine then .ok (.tup l) S else .no
def lstR (l : List Dv) (S : Sto) : Res Dv := if l.length ≤ sizeLine then .ok (.lst l) S else .no
def eTup (fa : DA) : DE := fun e S => bnd (fa e S) tupR
def eLst (fa : DA) : DE := fun e S => bnd (fa e S) lstR
theorem qe_tup {x1} (h : QA X W es fa) : QE X W (.Tuple es x1 pos) (eTup fa) := pe_imp (pe_tup h) fun g H Q q => by
  refine Rdg.bind (R := VRs X.kw) (k := fun e => tupR) q fun L0 io0 H0 L io H1 e S d v fr rv q => ?_
  unfold tupR at q
  split at q
  · rename_i hl
    exact ⟨by rw [rv.len]; exact hl, fun p hp => q _ _ L io (Stp.alloc hp) (fr.st.alloc hp) (VR.newT fr.st hp rv)⟩
  · exact q.elim
end
section
variable {X : Cx} {W : WX} {a : Expr} {es : List Expr} {f : DE} {fa : DA}
theorem qxs_nil : QXs X W [] aNil := pa_imp pa_nil fun g H Q q => by
  obtain ⟨L0, io0, H0, L, io, e, S, fr, h⟩ := q
  exact h [] H L io (Stp.refl ..) fr.st .nil
theorem VXs.step {K : Kw} {L L' : Addr → Prop} {io io' : List Addr} {H H' : Hp} : ∀ {vs : List V} {l : List Dv}, VXs K L io H vs l → Stp L io H L' io' H' → (∀ x ∈ io, L x) → VXs K L' io' H' vs l
  | _, _, .nil, _, _ => .nil
  | _, _, .cons h t, s, sub => .cons (h.step s sub) (t.step s sub)
theorem qxs_cons (ha : QX X W a f) (hr : QXs X W es fa) (hs : starEach (a :: es) X.env = (false, eval a X.env) :: starEach es X.env := by rfl) : QXs X W (a :: es) (aCons f fa) := pa_imp (pa_cons ha hr hs) fun g H Q q => by
  refine Rdg.bind (R := VX X.kw) (k := fun e d S1 => bnd (fa e S1) fun l S2 => .ok (d :: l) S2) q fun L0 io0 H0 L io H1 e S d v fr rv q => ?_
  refine Fin.bind (R := VXs X.kw) (k := fun l S2 => .ok (d :: l) S2) fr q fun L2 io2 H2 S2 l vs s2 fr2 rvs q => ?_
  exact q.ok1 fr2.st (.cons (rv.step s2 fr.st.sub) rvs)
end
def CaS (K : Kw) (r : List V → Hp → VK → Prop) (h : Sto → List Dv → Option (Dv × Sto)) : Prop :=
  ∀ (L : Addr → Prop) (io : List Addr) (H : Hp) (S : Sto) (xs : List V) (l : List Dv) (d : Dv) (S' : Sto) (Q : VK), SR K L io H S → VXs K L io H xs l → h S l = some (d, S') →
    (∀ (v : V) (H' : Hp) (L' : Addr → Prop) (io' : List Addr), Stp L io H L' io' H' → SR K L' io' H' S' → VR K L' io' H' v d → Q v H') → r xs H Q
def eCB (h : Sto → List Dv → Option (Dv × Sto)) (fa : DA) : DE := fun e S => bnd (fa e S) fun l S1 => ofO (h S1 l)
theorem rd_cb {K : Kw} {W : WX} {r : List V → Hp → VK → Prop} {h : Sto → List Dv → Option (Dv × Sto)} {fa : DA} (hc : CaS K r h) {g : St} {H : Hp} {Q : VK} (q : rd K W (eCB h fa) g H Q) : tCB r (Rdg K W (VXs K) fa) g H Q := by
  refine Rdg.bind (R := VXs K) (k := fun _ l S1 => ofO (h S1 l)) q fun L0 io0 H0 L io H1 e S l v fr rv q => ?_
  obtain ⟨d, S', h1, h2⟩ := q.opt
  exact hc L io H1 S v l d S' Q fr.st rv h1 h2
section
variable {X : Cx} {W : WX} {pos p : Pos} {e : Expr} {es : List Expr} {fa : DA} {r : List V → Hp → VK → Prop} {h : Sto → List Dv → Option (Dv × Sto)} {x : Str} {id T : String}
theorem qe_callB (hc : CallR X (.builtin id) r) (hs : CaS X.kw r h) (hm : X.mg x = none) (hv : bootBuiltins x = some (.builtin id)) (ha : QXs X W (e :: es) fa) (hg : Gl X x := by rfl) (hn : x ≠ "__name__" := by decide) (hdb : (x == ("__debug__" : Str)) = false := by decide)
    (he : starEach (e :: es) X.env = (false, eval e X.env) :: starEach es X.env := by rfl) (hpl : (backTo pos (starEach es X.env)).any (·.1) = false := by rfl) : QE X W (.Call (.Name x p) (e :: es) [] pos) (eCB h fa) :=
  pe_imp (pe_callB hc hg hm hv ha hn hdb he hpl) fun _ _ _ q => rd_cb hs q
theorem qe_callTy (hc : CallR X (.type T) r) (hs : CaS X.kw r h) (hm : X.mg x = none) (hv : bootBuiltins x = some (.type T)) (ha : QXs X W (e :: es) fa) (hg : Gl X x := by rfl) (hn : x ≠ "__name__" := by decide) (hdb : (x == ("__debug__" : Str)) = false := by decide)
    (he : starEach (e :: es) X.env = (false, eval e X.env) :: starEach es X.env := by rfl) (hpl : (backTo pos (starEach es X.env)).any (·.1) = false := by rfl) : QE X W (.Call (.Name x p) (e :: es) [] pos) (eCB h fa) :=
  pe_imp (pe_callTy hc hg hm hv ha hn hdb he hpl) fun _ _ _ q => rd_cb hs q
end
def lenD (S : Sto) : List Dv → Option (Dv × Sto)
  | [.str x] => if x.length ≤ sizeLine then some (.int x.length, S) else none
  | [d] => (asQ S d).map fun l => (.int l.length, S)
  | _ => none
theorem cas_len {K : Kw} : CaS K (fun xs H Q => ∃ x n, xs = [x] ∧ LenV K x H n ∧ Q (.int n) H) lenD := by
  intro L io H S xs l d S' Q sr rv e q
  cases rv with
  | nil => cases e
  | cons r t =>
    cases t with
    | cons r2 t2 => rename_i dd _ _ _ _; cases dd <;> cases e
    | nil =>
      rename_i v dd
      have seq : (asQ S dd).map (fun l => ((.int l.length : Dv), S)) = some (d, S') → ∃ x n, [v] = [x] ∧ LenV K x H n ∧ Q (.int n) H := by
        intro e
        obtain ⟨l, h1, h2⟩ := map_ok e
        cases h2
        obtain ⟨a, xs, rfl, hs, t⟩ := asQ_x sr r h1
        have fin := q (.int l.length) H L io (Stp.refl ..) sr (.int _)
        refine ⟨_, l.length, rfl, ?_, fin⟩
        rcases hs with hs | hs
        · exact .inl ⟨xs, hs, t.len.symm⟩
        · exact .inr ⟨xs, hs, t.len.symm⟩
      cases dd with
      | str x =>
        simp only [lenD] at e
        split at e
        · rename_i h
          cases e; cases r.vr rfl
          exact ⟨_, x.length, rfl, ⟨h, rfl⟩, q _ H L io (Stp.refl ..) sr (.int _)⟩
        · cases e
      | _ => exact seq e
/-- abs, int -/
def absD (S : Sto) : List Dv → Option (Dv × Sto)
  | [.int i] => some (.int (if i < 0 then -i else i), S)
  | _ => none
theorem cas_abs {K : Kw} : CaS K (fun xs H Q => ∃ i, xs = [.int i] ∧ Q (.int (if i < 0 then -i else i)) H) absD := by
  intro L io H S xs l d S' Q sr rv e q
  cases rv with
  | nil => cases e
  | cons r t =>
    cases t with
    | cons r2 t2 => rename_i dd _ _ _ _; cases dd <;> cases e
    | nil =>
      rename_i v dd
      cases dd with
      | int i => cases r.vr rfl; cases e; exact ⟨i, rfl, q _ H L io (Stp.refl ..) sr (.int _)⟩
      | _ => cases e
/-- list(x), tuple(x) -/
def listD (S : Sto) : List Dv → Option (Dv × Sto)
  | [d] => (asQ S d).map fun l => (.lst l, S)
  | _ => none
theorem cas_list {K : Kw} : CaS K (fun xs H Q => ∃ p ys, xs = [.ref p] ∧ (SqL K H p ys ∨ SqT K H p ys) ∧ ∀ l, H l = none → Q (.ref l) (upd H l (.lst ys))) listD := by
  intro L io H S xs l d S' Q sr rv e q
  cases rv with
  | nil => cases e
  | cons r t =>
    cases t with
    | cons r2 t2 => cases e
    | nil =>
      obtain ⟨l, h1, h2⟩ := map_ok e
      cases h2
      obtain ⟨a, xs, rfl, hs, t⟩ := asQ_x sr r h1
      exact ⟨a, xs, rfl, hs, fun p hp => q _ _ L io (Stp.alloc hp) (sr.alloc hp) (VR.newL sr hp t)⟩
def tupleD (S : Sto) : List Dv → Option (Dv × Sto)
  | [d] => (asQ S d).map fun l => (.tup l, S)
  | _ => none
theorem cas_tuple {K : Kw} : CaS K (fun xs H Q => ∃ p ys, xs = [.ref p] ∧ ((SqL K H p ys ∧ ∀ l, H l = none → Q (.ref l) (upd H l (.tup ys))) ∨ (SqT K H p ys ∧ Q (.ref p) H))) tupleD := by
  intro L io H S xs l d S' Q sr rv e q
  cases rv with
  | nil => cases e
  | cons r t =>
    cases t with
    | cons r2 t2 => cases e
    | nil =>
      rename_i v dd
      obtain ⟨l, h1, h2⟩ := map_ok e
      cases h2
      unfold asQ at h1
      cases h : asT dd with
      | some m =>
        rw [h] at h1; cases h1
        obtain ⟨a, xs, rfl, hs, t⟩ := asT_x r h
        cases dd with
        | tup m' => cases h; exact ⟨a, xs, rfl, .inr ⟨hs, q _ H L io (Stp.refl ..) sr (r.vr rfl)⟩⟩
        | _ => cases h
      | none =>
        rw [h] at h1
        obtain ⟨a, xs, rfl, hs, t⟩ := asL_x sr r h1
        exact ⟨a, xs, rfl, .inl ⟨hs, fun p hp => q _ _ L io (Stp.alloc hp) (sr.alloc hp) (VR.newT sr hp t)⟩⟩
end DL
namespace DL
open PySem L2
def tyD (S : Sto) : Dv → Option String
  | .non => some "NoneType"
  | .bl _ => some "bool"
  | .int _ => some "int"
  | .str _ => some "str"
  | .tup _ => some "tuple"
  | .lst _ => some "list"
  | .rol _ => some "list"
  | .dic _ => some "dict"
  | .hdl k => match S[k]? with
    | some (.lst _) => some "list"
    | some (.dct _) => some "dict"
    | _ => none
  | _ => none
def tysOf : List Dv → Option (List String)
  | [] => some []
  | .ty c :: r => (tysOf r).map fun l => c :: l
  | _ => none
def kitS (t : String) : List String → Option Bool
  | [] => some false
  | c :: r => match kitB t c with
    | some true => some true
    | some false => kitS t r
    | none => none
def kitD (t : String) (cs : List Dv) : Option Bool := (tysOf cs).bind fun l => kitS t l
def isiD (S : Sto) : List Dv → Option (Dv × Sto)
  | [d, .ty c] => (tyD S d).bind fun t => (kitB t c).map fun b => (.bl b, S)
  | [d, .tup cs] => (tyD S d).bind fun t => (kitD t cs).map fun b => (.bl b, S)
  | _ => none
theorem CallR.or {X : Cx} {f : Value} {r r' : List V → Hp → VK → Prop} (h : CallR X f r) (h' : CallR X f r') : CallR X f (fun x H Q => r x H Q ∨ r' x H Q) := by
  intro pins s g H xs us Q I rv q
  rcases q with q | q
  · exact h pins s g H xs us Q I rv q
  · exact h' pins s g H xs us Q I rv q
section
variable {K : Kw} {L : Addr → Prop} {io : List Addr} {H : Hp} {S : Sto}
theorem VRs.atI {vs : List V} {l : List Dv} {i : Int} {d : Dv} (r : VRs K L io H vs l) (h : L2.atI l i = some d) : ∃ v, L2.atI vs i = some v ∧ VR K L io H v d := by
  unfold L2.atI at h ⊢
  rw [r.len]
  cases q : ixN l.length i with
  | none => rw [q] at h; cases h
  | some j =>
    rw [q] at h
    obtain ⟨v, h1, h2⟩ := r.get (i := j) h
    exact ⟨v, h1, h2⟩
def cutG {α : Type} (xs : List α) (lo hi : Option Int) : List α := (xs.drop (HT.sIx xs.length 0 lo)).take (HT.sIx xs.length xs.length hi - HT.sIx xs.length 0 lo)
theorem VRs.cut {vs : List V} {l : List Dv} {lo hi : Option Int} (r : VRs K L io H vs l) : VRs K L io H (cutV vs lo hi) (cutG l lo hi) := by
  unfold cutV cutG
  rw [r.len]
  exact (r.drop _).take _
end
def ixD (S : Sto) (d i : Dv) : Option (Dv × Sto) := match i with
  | .int i => (match d with
    | .str z => if z.length ≤ sizeLine then (atI z.cps.toList i).map fun c => (.str ⟨#[c]⟩, S) else none
    | _ => (asQ S d).bind fun l => (atI l i).map fun x => (x, S))
  | _ => none
theorem ops_ix {K : Kw} : OpS K (rIx K) ixD := by
  intro L io H S x y a b d S' Q sr ra rb e q
  cases b with
  | int i =>
    cases rb.vr rfl
    have seq : ((asQ S a).bind fun l => (atI l i).map fun x => (x, S)) = some (d, S') → rIx K x (.int i) H Q := by
      intro e
      cases h : asT a with
      | some l =>
        have h' : asQ S a = some l := by unfold asQ; rw [h]
        rw [h'] at e
        obtain ⟨z, h1, h2⟩ := map_ok e
        cases h2
        obtain ⟨p, xs, rfl, hs, t⟩ := asT_x ra h
        obtain ⟨v, h3, h4⟩ := t.atI h1
        exact .inr (.inl ⟨p, xs, i, v, rfl, rfl, hs, h3, q _ H L io (Stp.refl ..) sr h4⟩)
      | none =>
        have h' : asQ S a = asL S a := by unfold asQ; rw [h]
        rw [h'] at e
        cases h5 : asL S a with
        | none => rw [h5] at e; cases e
        | some l =>
          rw [h5] at e
          obtain ⟨z, h1, h2⟩ := map_ok e
          cases h2
          obtain ⟨p, xs, rfl, hs, t⟩ := asL_x sr ra h5
          obtain ⟨v, h3, h4⟩ := t.atI h1
          exact .inl ⟨p, xs, i, v, rfl, rfl, hs, h3, q _ H L io (Stp.refl ..) sr h4⟩
    cases a with
    | str z =>
      simp only [ixD] at e
      split at e
      · rename_i hz
        obtain ⟨c, h1, h2⟩ := map_ok e
        cases h2; cases ra.vr rfl
        exact .inr (.inr ⟨z, i, c, rfl, rfl, hz, h1, q _ H L io (Stp.refl ..) sr (.str _)⟩)
      · cases e
    | _ => exact seq e
  | _ => cases e
theorem qe_ix {X : Cx} {W : WX} {pos : Pos} {a b : Expr} {f1 f2 : DE} (ha : QX X W a f1) (hb : QX X W b f2) (hs : PlainIx b := by exact fun _ _ => rfl) : QE X W (.Subscript a b pos) (eBin ixD f1 f2) := pe_imp (pe_ix ix_seq ha hb hs) fun _ _ _ q => rd_bin ops_ix q
/-- a[lo:hi] -/
abbrev DO := Env → Sto → Res (Option Int)
def rdo (K : Kw) (W : WX) (f : DO) : TO := Rdg K W (fun _ _ _ (v : Option Int) d => v = d) f
abbrev QO (X : Cx) (W : WX) (e : Option Expr) (f : DO) : Prop := PO X e (rdo X.kw W f)
theorem po_imp {X : Cx} {e : Option Expr} {t t' : TO} (h : PO X e t) (i : ∀ g H Q, t' g H Q → t g H Q) : PO X e t' := ⟨fun pins s g H Q I q => h.run pins s g H Q I (i g H Q q)⟩
def oNone : DO := fun _ S => .ok none S
def oInt : Dv → Sto → Res (Option Int)
  | .int i, S => .ok (some i) S
  | _, _ => .no
def oSome (f : DE) : DO := fun e S => bnd (f e S) oInt
def cutD (S : Sto) (d : Dv) (lo hi : Option Int) : Option (Dv × Sto) := match d with
  | .str z => if z.length ≤ sizeLine then some (.str (cutS z lo hi), S) else none
  | .tup l => some (.tup (cutG l lo hi), S)
  | _ => (asL S d).map fun l => (.lst (cutG l lo hi), S)
def eCut (f : DE) (lo hi : DO) : DE := fun e S => bnd (f e S) fun d S1 => bnd (lo e S1) fun l S2 => bnd (hi e S2) fun h S3 => ofO (cutD S3 d l h)
section
variable {X : Cx} {W : WX} {pos p2 : Pos} {a : Expr} {lo hi : Option Expr} {f : DE} {fl fh : DO}
theorem qo_none : QO X W none oNone := po_imp po_none fun g H Q q => by
  obtain ⟨L0, io0, H0, L, io, e, S, fr, q⟩ := q
  exact q.ok1 fr.st rfl
theorem qo_some (h : QE X W a f) : QO X W (some a) (oSome f) := po_imp (po_some h) fun g H Q q => by
  refine Rdg.bind (R := VR X.kw) (k := fun _ => oInt) q fun L0 io0 H0 L io H1 e S a v fr ra q => ?_
  cases ra with
  | int b => exact ⟨_, rfl, q.ok1 fr.st rfl⟩
  | _ => exact q.elim
theorem cutG_whole {α : Type} {l : List α} {lo hi : Option Int} (h : HT.sIx l.length 0 lo = 0 ∧ HT.sIx l.length l.length hi = l.length) : cutG l lo hi = l := by
  unfold cutG
  rw [h.1, h.2]
  simp
theorem qe_cut (he : QX X W a f) (hl : QO X W lo fl) (hh : QO X W hi fh) : QE X W (.Subscript a (.Slice lo hi none p2) pos) (eCut f fl fh) := pe_imp (pe_slice (sl_list.or (sl_tupA.or sl_str)) he hl hh) fun g H Q q => by
  refine Rdg.bind (R := VX X.kw) (k := fun e d S1 => bnd (fl e S1) fun l S2 => bnd (fh e S2) fun h S3 => ofO (cutD S3 d l h)) q fun L0 io0 H0 L io H1 e S d v fr rv q => ?_
  refine Fin.bind (R := fun _ _ _ (v : Option Int) d => v = d) (k := fun l S2 => bnd (fh e S2) fun h S3 => ofO (cutD S3 d l h)) fr q fun L2 io2 H2 S2 l w s2 fr2 rw2 q => ?_
  subst rw2
  refine Fin.bind (R := fun _ _ _ (v : Option Int) d => v = d) (k := fun h S3 => ofO (cutD S3 d w h)) fr2 q fun L3 io3 H3 S3 h w2 s3 fr3 rw3 q => ?_
  subst rw3
  have r := (rv.step s2 fr.st.sub).step s3 fr2.st.sub
  obtain ⟨d', S', h1, h2⟩ := q.opt
  have lst : (asL S3 d).map (fun l => (Dv.lst (cutG l w w2), S3)) = some (d', S') → rSlL X.kw v w w2 H3 Q := by
    intro e
    obtain ⟨l, h3, h4⟩ := map_ok e
    cases h4
    obtain ⟨p, xs, rfl, hs, t⟩ := asL_x fr3.st r h3
    exact ⟨p, xs, rfl, hs, fun p hp => h2 _ _ L3 io3 (Stp.alloc hp) (fr3.st.alloc hp) (VR.newL fr3.st hp t.cut)⟩
  cases d with
  | str z =>
    simp only [cutD] at h1
    split at h1
    · rename_i hz
      cases h1; cases r.vr rfl
      exact .inr (.inr ⟨z, rfl, hz, h2 _ H3 L3 io3 (Stp.refl ..) fr3.st (.str _)⟩)
    · cases h1
  | tup l =>
    cases h1
    obtain ⟨p, xs, rfl, hs, t⟩ := (r.vr rfl).tupS
    refine .inr (.inl ⟨p, xs, rfl, hs, fun hw => ?_, fun hw p hp => ?_⟩)
    · rw [t.len] at hw
      rw [cutG_whole hw] at h2
      exact h2 _ H3 L3 io3 (Stp.refl ..) fr3.st (r.vr rfl)
    · exact h2 _ _ L3 io3 (Stp.alloc hp) (fr3.st.alloc hp) (VR.newT fr3.st hp t.cut)
  | _ => exact .inl (lst h1)
end
structure RoomG (k : Nat) (A : Around) : Prop where
  r : Room k A
  g : A.guards = some []
theorem RoomG.mono {j k : Nat} {A : Around} (h : RoomG k A) (hj : j ≤ k) : RoomG j A := ⟨h.r.mono hj, h.g⟩
theorem RoomG.deeper {k : Nat} {A : Around} (h : RoomG (k + 1) A) (v : PySem.Env) : RoomG k (A.deeper v) := ⟨h.r.deeper v, h.g⟩
theorem RoomG.in1 {k : Nat} {A : Around} (h : RoomG (k + 1) A) : RoomG k A.in1 := ⟨h.r.in1, h.g⟩
theorem RoomG.low {k : Nat} {A : Around} (h : RoomG (k + 1) A) : RoomG k A := h.mono (Nat.le_succ k)
/-- what a def promises: as FnOk, at calls without a guard; what it raises lies as L2.CX says -/
structure FnG (P : Program) (w : World) (K : Kw) (mg : Str → Option Value) (base : Heap) (k : Nat) (f : Addr) (fd : FuncData) (ps : List Str) (sp : Sp) : Prop where
  len : ∀ vs H Q E, sp vs H Q E → vs.length = ps.length
  run : ∀ (A : Around) (up : List PySem.Env) (s : Shared) (H : Hp) (args : Args) (us : List Value) (vs : List V) (Q : VK) (E : XK), RoomG k A → Env0 P w K mg base A up s H → BindsTo s fd args (ps.zip us) → Vals vs us → sp vs H Q E →
    codeAny (model P w) A (.call (.ref f) args) (CR (L2.CX P w) up P w H s Q E) s
theorem FnG.mono {P : Program} {w : World} {K : Kw} {mg : Str → Option Value} {base : Heap} {j k : Nat} {f : Addr} {fd : FuncData} {ps : List Str} {sp : Sp} (F : FnG P w K mg base j f fd ps sp) (h : j ≤ k) : FnG P w K mg base k f fd ps sp :=
  ⟨F.len, fun A up s H args us vs Q E hr => F.run A up s H args us vs Q E (hr.mono h)⟩
/-- a promise that nobody can ask -/
theorem FnG.never {P : Program} {w : World} {K : Kw} {mg : Str → Option Value} {base : Heap} {k : Nat} {f : Addr} {fd : FuncData} {ps : List Str} {sp : Sp} (h : ∀ vs H Q E, ¬ sp vs H Q E) : FnG P w K mg base k f fd ps sp :=
  ⟨fun vs H Q E z => (h vs H Q E z).elim, fun _ _ _ H _ _ vs Q E _ _ _ _ z => (h vs H Q E z).elim⟩
theorem takesW0 {X : Cx} : Takes X (fun _ _ _ _ => False) := fun _ _ ⟨_, _, _, _, _, _, _, _, _, _, _, _, _, _, _, _, z⟩ => z.elim
section
variable {X : Cx} {W : WX} {k : Nat} {f : Addr} {fd : FuncData} {ps : List Str} {sp : Sp} {dvs : List V} {ds : List Value}
/-- the callee of any rule runs -/
theorem run_g {pins : List (Addr × Obj)} {g : St} {H : Hp} {s : Shared} {Q : VK} {us : List Value} {vs : List V} (F : FnG X.prog X.w X.kw X.mg X.base k f fd ps sp) (hr : RoomG k X.A) (hb : Binds X.kw fd ps ds) (hd : Vals dvs ds) (tk : Takes X W)
    (I : Inv X pins g H s) (r : Vals vs us) (h : sp (vs ++ dvs) H Q (fun c d H' => W c d g H')) : wpAny (model X.prog X.w) X.A (call (.ref f) us) (EP X pins g Q) X.xe s := by
  have r2 := r.append hd
  have hl : (us ++ ds).length = ps.length := by
    rw [← r2.length]
    exact F.len _ _ _ _ h
  refine wpAny_call (codeAny_mono (F.run X.A X.stack s H ⟨us, []⟩ _ _ Q _ hr I.env0 (hb s us I.kIn hl) r2 h) fun rr s' z => ?_)
  match rr, z with
  | .error e, z => exact tk e s' (XE.of_call I (fun _ _ _ q => q) z)
  | .ok (.ret u), z => exact I.after z
  | .ok .next, z => exact z.elim
  | .ok .brk, z => exact z.elim
  | .ok .cont, z => exact z.elim
end
def Lx (L : Addr → Prop) (io : List Addr) : Addr → Prop := fun a => L a ∨ a ∈ io
abbrev DF := Sto → List Dv → Res Dv
/-- a def's promise: called with such data in such a store it gives g's answer -/
def spD (K : Kw) (g : DF) : Sp := fun vs H Q E => ∃ (L : Addr → Prop) (io : List Addr) (S : Sto) (l : List Dv), SR K L io H S ∧ VRs K L io H vs l ∧ match g S l with
  | .ok d S' => ∀ (v : V) (H' : Hp) (io' : List Addr), Stp L io H (Lx L io') io' H' → SR K (Lx L io') io' H' S' → VR K (Lx L io') io' H' v d → Q v H'
  | .ex c fs S' => ∀ (x : Option Addr) (H' : Hp) (io' : List Addr), Stp L io H (Lx L io') io' H' → SR K (Lx L io') io' H' S' → ExR K (Lx L io') io' H' x fs → E (.ref (He.ga K c)) x H'
  | .no => False
/-- the answer of none -/
def gNo : DF := fun _ _ => .no
theorem spD_no {K : Kw} : ∀ vs H Q E, ¬ spD K gNo vs H Q E := fun _ _ _ _ ⟨_, _, _, _, _, _, z⟩ => z
/-- a def's promise from what is wished behind it -/
theorem spD_fin {K : Kw} {W : WX} {g : DF} {st : St} {L : Addr → Prop} {io : List Addr} {H : Hp} {S : Sto} {vs : List V} {l : List Dv} {Q : VK} (sr : SR K L io H S) (r : VRs K L io H vs l) (q : Fin K W (VR K) st L io H Q (g S l)) : spD K g vs H Q (fun c d H' => W c d st H') := by
  refine ⟨L, io, S, l, sr, r, ?_⟩
  cases h : g S l with
  | ok d S' => rw [h] at q; exact fun v H' io' s sr r => q v H' _ io' s sr r
  | ex c fs S' => rw [h] at q; exact fun v H' io' s sr r => q v H' _ io' s sr r
  | no => rw [h] at q; exact q
/-- the def that the module's name x stands for answers as g; dl: the data of the defaults that a call without them takes -/
def FD (P : Program) (w : World) (K : Kw) (mg : Str → Option Value) (base : Heap) (k : Nat) (x : Str) (g : DF) : Prop :=
  ∃ (f : Addr) (fd : FuncData) (ps : List Str), FnG P w K mg base k f fd ps (spD K g) ∧ mg x = some (.ref f) ∧ f = He.ga K x ∧ PySem.W.keepIn K (.ref f) = true ∧ Binds K fd ps []
def eCall (g : DF) (fa : DA) : DE := fun e S => bnd (fa e S) fun l S1 => g S1 l
section
variable {X : Cx} {W : WX} {k i : Nat} {x : Str} {g : DF} {p pos : Pos} {e : Expr} {es : List Expr} {fa : DA}
theorem qe_call (F : FD X.prog X.w X.kw X.mg X.base k x g) (hr : RoomG (k + 1) X.A) (tk : Takes X W) (ha : QA X W (e :: es) fa) (hg : Gl X x := by rfl) (hdb : (x == ("__debug__" : Str)) = false := by decide) (he : starEach (e :: es) X.env = (false, eval e X.env) :: starEach es X.env := by rfl) (hpl : (backTo pos (starEach es X.env)).any (·.1) = false := by rfl) :
    QE X W (.Call (.Name x p) (e :: es) [] pos) (eCall g fa) := by
  obtain ⟨f, fd, ps, F, hm, _, hk, hb⟩ := F
  refine ⟨fun pins s st H Q I q => wpAny_Call_Name_kw (ld_glob I hg hm ?_ hdb)⟩
  refine PySem.W.callWith_K (h₀ := X.base) I.ok.mod.kin hk (thn (ha.run pos pins s st H (fun vs H1 => spD X.kw g vs H1 Q fun c d H' => W c d st H') I ?_) fun us s1 ⟨vs, H1, I1, r, q⟩ => ⟨I1.kIn, run_g F hr.low hb .nil tk I1 r (by rw [List.append_nil]; exact q)⟩) he hpl
  exact Rdg.bind (R := VRs X.kw) (k := fun _ l S1 => g S1 l) q fun L0 io0 H0 L io H1 e S l v fr rv q => spD_fin fr.st rv q
/-- fits(..), fits a name of this def that stands for a def of the module; t: what the defs answer -/
def eCallL (t : Str → Option DF) (i : Nat) (fa : DA) : DE := fun e S => match e[i]? with
  | some (.va (.glo x)) => match t x with
    | some g => bnd (fa e S) fun l S1 => g S1 l
    | none => .no
  | _ => .no
end
end DL
namespace DL
open PySem L2
structure Stw (L : Addr → Prop) (io : List Addr) (H : Hp) (L' : Addr → Prop) (io' : List Addr) (H' : Hp) : Prop where
  pre : ∃ more, io' = io ++ more
  new : ∀ a, L' a → L a ∨ H a = none
  keep : ∀ a o, H a = some o → ¬ L a → H' a = some o
section
variable {K : Kw} {L L1 L2 L' : Addr → Prop} {io io1 io2 io' : List Addr} {H H1 H2 H' : Hp} {S : Sto}
theorem Stw.refl (L : Addr → Prop) (io : List Addr) (H : Hp) : Stw L io H L io H := ⟨⟨[], by simp⟩, fun _ h => .inl h, fun _ _ h _ => h⟩
theorem Stp.stw (s : Stp L io H L' io' H') (sub : ∀ x ∈ io, L x) : Stw L io H L' io' H' := ⟨s.pre, s.new, fun a o h n => s.keep a o h fun z => n (sub a z)⟩
theorem Stw.trans (a : Stw L io H L1 io1 H1) (b : Stw L1 io1 H1 L2 io2 H2) : Stw L io H L2 io2 H2 where
  pre := by
    obtain ⟨m, rfl⟩ := a.pre
    obtain ⟨m1, rfl⟩ := b.pre
    exact ⟨m ++ m1, by simp⟩
  new := fun x h => by
    rcases b.new x h with h1 | h1
    · exact a.new x h1
    · cases e : H x with
      | none => exact .inr rfl
      | some o =>
        by_cases hl : L x
        · exact .inl hl
        · rw [a.keep x o e hl] at h1; cases h1
  keep := fun x o h n => b.keep x o (a.keep x o h n) fun z => by
    rcases a.new x z with q | q
    · exact n q
    · rw [q] at h; cases h
theorem Stw.on (s : Stw L io H L' io' H') : (∀ (k : Nat) (a : Addr), io[k]? = some a → io'[k]? = some a) ∧ (∀ a o, H a = some o → ¬ L a → H' a = some o ∧ ¬ L' a) := by
  refine ⟨fun k a h => ?_, fun a o h nl => ⟨s.keep a o h nl, fun z => ?_⟩⟩
  · obtain ⟨m, rfl⟩ := s.pre
    exact io_keep h
  · rcases s.new a z with q | q
    · exact nl q
    · rw [q] at h; cases h
theorem VR.stw {v : V} {d : Dv} (h : VR K L io H v d) (s : Stw L io H L' io' H') : VR K L' io' H' v d := VR.on s.on.1 s.on.2 h
theorem VRs.stw {v : List V} {d : List Dv} (h : VRs K L io H v d) (s : Stw L io H L' io' H') : VRs K L' io' H' v d := VRs.on s.on.1 s.on.2 h
/-- a volatile thing that is no handle's is changed -/
theorem SR.mut {p : Addr} {o : HO} (s : SR K L io H S) (hp : L p) (hn : p ∉ io) : SR K L io (upd H p o) S where
  len := s.len
  nd := s.nd
  sub := s.sub
  dom := fun a ha => by
    by_cases e : a = p
    · rw [e, upd_same]; exact fun z => nomatch z
    · rw [upd_ne e]; exact s.dom a ha
  obj := fun k a ob h1 h2 => (s.obj k a ob h1 h2).mono (fun u e => by rw [upd_ne (fun z => hn (by rw [← z]; exact List.mem_of_getElem? h1))]; exact e) fun v d r => r.mut hp
theorem Stw.mut {p : Addr} {o : HO} (hp : L p) : Stw L io H L io (upd H p o) := ⟨⟨[], by simp⟩, fun _ h => .inl h, fun a u e n => by rw [upd_ne (fun z => n (by rw [z]; exact hp))]; exact e⟩
/-- a new thing, volatile from now on -/
def Ly (L : Addr → Prop) (p : Addr) : Addr → Prop := fun a => L a ∨ a = p
def Lz (L : Addr → Prop) (p : Addr) : Addr → Prop := fun a => L a ∧ a ≠ p
theorem Stp.newV {p : Addr} {o : HO} (hp : H p = none) : Stp L io H (Ly L p) io (upd H p o) :=
  ⟨⟨[], by simp⟩, fun _ h => .inl h, fun a h => h.elim .inl fun e => .inr (by rw [e]; exact hp), fun a u e _ => by rw [upd_ne (ne_of_none e hp)]; exact e, fun _ h => .inl h⟩
theorem SR.newV {p : Addr} {o : HO} (s : SR K L io H S) (hp : H p = none) : SR K (Ly L p) io (upd H p o) S where
  len := s.len
  nd := s.nd
  sub := fun a h => .inl (s.sub a h)
  dom := fun a ha => by
    by_cases e : a = p
    · rw [e, upd_same]; exact fun z => nomatch z
    · rw [upd_ne e]; exact s.dom a (ha.elim id fun z => absurd z e)
  obj := fun k a ob h1 h2 => (s.obj k a ob h1 h2).mono (fun u e => by rw [upd_ne (ne_of_none e hp)]; exact e) fun v d r => r.step (Stp.newV hp) s.sub
/-- fewer volatile things -/
theorem SR.less (s : SR K L io H S) (hl : ∀ a, L' a → L a) (sub : ∀ a ∈ io, L' a) : SR K L' io H S :=
  ⟨s.len, s.nd, sub, fun a h => s.dom a (hl a h), fun k a o h1 h2 => (s.obj k a o h1 h2).mono (fun _ e => e) fun v d r => r.less hl⟩
end
/-- a new list l stands at p (H: the heap ahead of the piece) -/
def NewL (K : Kw) (H : Hp) (L' : Addr → Prop) (io' : List Addr) (H' : Hp) (v : V) (l : List Dv) : Prop := ∃ p xs, v = .ref p ∧ H p = none ∧ L' p ∧ p ∉ io' ∧ H' p = some (.lst xs) ∧ VRs K L' io' H' xs l
abbrev DL := Env → Sto → Res (List Dv)
def FinF (K : Kw) (W : WX) (g : St) (L : Addr → Prop) (io : List Addr) (H : Hp) (Q : V → Hp → Prop) : Res (List Dv) → Prop
  | .ok d S' => ∀ (v : V) (H' : Hp) (L' : Addr → Prop) (io' : List Addr), Stp L io H L' io' H' → SR K L' io' H' S' → NewL K H L' io' H' v d → Q v H'
  | .ex c fs S' => ∀ (x : Option Addr) (H' : Hp) (L' : Addr → Prop) (io' : List Addr), Stp L io H L' io' H' → SR K L' io' H' S' → ExR K L' io' H' x fs → W (.ref (He.ga K c)) x g H'
  | .no => False
def rdF (K : Kw) (W : WX) (f : DL) : TE := fun g H Q => ∃ (L0 : Addr → Prop) (io0 : List Addr) (H0 : Hp) (L : Addr → Prop) (io : List Addr) (e : Env) (S : Sto), FR K L0 io0 H0 L io H g e S ∧ FinF K W g L io H Q (f e S)
abbrev QF (X : Cx) (W : WX) (e : Expr) (f : DL) : Prop := PE X e (rdF X.kw W f)
def eFrz (f : DL) : DE := fun e S => bnd (f e S) fun l S' => .ok (.lst l) S'
theorem rd_frz {K : Kw} {W : WX} {f : DL} {g : St} {H : Hp} {Q : VK} (q : rd K W (eFrz f) g H Q) : rdF K W f g H Q := by
  obtain ⟨L0, io0, H0, L, io, e, S, fr, q⟩ := q
  refine ⟨L0, io0, H0, L, io, e, S, fr, ?_⟩
  have q : Fin K W (VR K) g L io H Q (bnd (f e S) fun l S' => .ok (.lst l) S') := q
  cases hf : f e S with
  | no => rw [hf] at q; exact q
  | ex c fs S' => rw [hf] at q; exact q
  | ok l S' =>
    rw [hf] at q
    intro v H' L' io' s sr ⟨p, xs, hv, hp, lp, np, h1, h2⟩
    subst hv
    have hl : ∀ a, Lz L' p a → L' a := fun a z => z.1
    refine q _ H' (Lz L' p) io' ⟨s.pre, s.hn, fun a z => s.new a z.1, s.keep, fun a z => ⟨s.up a z, fun e => fr.st.dom a z (by rw [e]; exact hp)⟩⟩ (sr.less hl fun a ha => ⟨sr.sub a ha, fun e => np (by rw [← e]; exact ha)⟩) (.lst (fun z => z.2 rfl) h1 (h2.less hl))
theorem qe_frz {X : Cx} {W : WX} {a : Expr} {f : DL} (h : QF X W a f) : QE X W a (eFrz f) := pe_imp h fun g H Q q => rd_frz q
section
variable {X : Cx} {W : WX} {pos : Pos} {es : List Expr} {fa : DA}
def fLst (fa : DA) : DL := fun e S => bnd (fa e S) fun l S1 => if l.length ≤ sizeLine then .ok l S1 else .no
theorem FinF.bind {α β : Type} {K : Kw} {R : (Addr → Prop) → List Addr → Hp → β → α → Prop} {f : Env → Sto → Res α} {k : α → Sto → Res (List Dv)} {g : St} {L0 L : Addr → Prop} {io0 io : List Addr} {H0 H : Hp} {e : Env} {S : Sto} {Q : V → Hp → Prop} {P : β → Hp → Prop}
    (fr : FR K L0 io0 H0 L io H g e S) (h : FinF K W g L io H Q (bnd (f e S) k))
    (n : ∀ (L1 : Addr → Prop) (io1 : List Addr) (H1 : Hp) (S1 : Sto) (a : α) (v : β), Stp L io H L1 io1 H1 → FR K L0 io0 H0 L1 io1 H1 g e S1 → R L1 io1 H1 v a → FinF K W g L1 io1 H1 Q (k a S1) → P v H1) : Rdg K W R f g H P := by
  refine ⟨L0, io0, H0, L, io, e, S, fr, ?_⟩
  cases hf : f e S with
  | ok a S1 =>
    rw [hf] at h
    intro v H1 L1 io1 s1 sr1 r1
    have h : FinF K W g L io H Q (k a S1) := h
    refine n L1 io1 H1 S1 a v s1 (fr.step s1 sr1) r1 ?_
    cases hk : k a S1 with
    | ok l S2 =>
      rw [hk] at h
      intro v H' L' io' s2 sr2 ⟨p, xs, e1, e2, e3⟩
      refine h v H' L' io' (s1.trans s2 fr.st.sub) sr2 ⟨p, xs, e1, ?_, e3⟩
      rcases s1.back e2 with z | z
      · exact absurd e2 (sr1.dom p (s1.up p (fr.st.sub p z)))
      · exact z
    | ex c fs S2 =>
      rw [hk] at h
      exact fun v H' L' io' s2 sr r2 => h v H' L' io' (s1.trans s2 fr.st.sub) sr r2
    | no => rw [hk] at h; exact h
  | ex c fs S1 => rw [hf] at h; exact h
  | no => rw [hf] at h; exact h
theorem FinF.new {K : Kw} {g : St} {L : Addr → Prop} {io : List Addr} {H : Hp} {S : Sto} {Q : V → Hp → Prop} {l : List Dv} {xs : List V} (h : FinF K W g L io H Q (.ok l S)) (sr : SR K L io H S) (r : VRs K L io H xs l) : ∀ p, H p = none → Q (.ref p) (upd H p (.lst xs)) := fun p hp =>
  h _ _ (Ly L p) io (Stp.newV hp) (sr.newV hp) ⟨p, xs, rfl, hp, .inr rfl, fun z => sr.dom p (sr.sub p z) hp, upd_same, r.step (Stp.newV hp) sr.sub⟩
theorem qf_lst (h : QA X W es fa) : QF X W (.List es pos) (fLst fa) := pe_imp (pe_lst h) fun g H Q q => by
  obtain ⟨L0, io0, H0, L, io, e, S, fr, q⟩ := q
  refine FinF.bind (R := VRs X.kw) (k := fun l S1 => if l.length ≤ sizeLine then .ok l S1 else .no) fr q fun L1 io1 H1 S1 l vs s1 fr1 r1 q => ?_
  split at q
  · rename_i hl
    exact ⟨by rw [r1.len]; exact hl, q.new fr1.st r1⟩
  · exact q.elim
end
end DL
namespace DL
open PySem L2
section
variable {K : Kw} {L0 L : Addr → Prop} {io0 io : List Addr} {H0 H : Hp} {g : St} {e : Env} {S : Sto} {i : Nat}
theorem set_get {α : Type} {l : List α} {i j : Nat} {a b : α} (h : (l.set i a)[j]? = some b) : (j = i ∧ b = a ∧ i < l.length) ∨ (j ≠ i ∧ l[j]? = some b) := by
  rw [List.getElem?_set] at h
  by_cases e : i = j
  · rw [if_pos e] at h
    split at h
    · cases h; exact .inl ⟨e.symm, rfl, by omega⟩
    · cases h
  · rw [if_neg e] at h
    exact .inr ⟨fun z => e z.symm, h⟩
theorem set_ne {α : Type} {l : List α} {i j : Nat} {a : α} (h : j ≠ i) : (l.set i a)[j]? = l[j]? := by
  rw [List.getElem?_set, if_neg (fun z => h z.symm)]
theorem set_at {α : Type} {l : List α} {i : Nat} {a : α} (h : i < l.length) : (l.set i a)[i]? = some a := by
  rw [List.getElem?_set, if_pos rfl, if_pos h]
/-- a slot gets another content, of which the frame's facts hold -/
theorem FR.setS (f : FR K L0 io0 H0 L io H g e S) (i : Nat) {x : Option V} {s : Sl}
    (hva : ∀ d, s = .va d → ∃ v, x = some v ∧ VR K L io H v d)
    (how : ∀ o, s = .own o → ∃ p, x = some (.ref p) ∧ L p ∧ p ∉ io ∧ H0 p = none ∧ ObR K L io H p o)
    (hinj : ∀ p, (∀ d, s ≠ .va d) → s ≠ .no → x = some (.ref p) → ∀ j, j ≠ i → (∀ d, e[j]? ≠ some (.va d)) → e[j]? ≠ some .no → g[j]? ≠ some (some (.ref p))) :
    FR K L0 io0 H0 L io H (g.set i x) (e.set i s) S where
  st := f.st
  len := by rw [List.length_set, List.length_set]; exact f.len
  va := fun j d h => by
    rcases set_get h with ⟨rfl, h1, h2⟩ | ⟨h1, h2⟩
    · obtain ⟨v, rfl, r⟩ := hva d h1.symm
      exact ⟨v, set_at (by rw [f.len]; exact h2), r⟩
    · obtain ⟨v, r1, r2⟩ := f.va j d h2
      exact ⟨v, by rw [set_ne h1]; exact r1, r2⟩
  own := fun j o h => by
    rcases set_get h with ⟨rfl, h1, h2⟩ | ⟨h1, h2⟩
    · obtain ⟨p, rfl, r⟩ := how o h1.symm
      exact ⟨p, set_at (by rw [f.len]; exact h2), r⟩
    · obtain ⟨p, r1, r2⟩ := f.own j o h2
      exact ⟨p, by rw [set_ne h1]; exact r1, r2⟩
  inj := fun j k p hjk v1 v2 n1 n2 h1 h2 => by
    have lg : ∀ {j : Nat} {z : Option V}, (g.set i x)[j]? = some z → j < e.length := fun {j z} h => by
      have := (List.getElem?_eq_some_iff.mp h).1
      rw [List.length_set, f.len] at this
      exact this
    by_cases ej : j = i
    · subst ej
      have ek : k ≠ j := fun z => hjk z.symm
      have hl := lg h1
      rw [set_at hl] at v1 n1
      rw [set_ne ek] at v2 n2 h2
      rw [set_at (by rw [f.len]; exact hl)] at h1
      exact hinj p (fun d z => v1 d (by rw [z])) (fun z => n1 (by rw [z])) (Option.some.inj h1) k ek v2 n2 h2
    · by_cases ek : k = i
      · subst ek
        have hl := lg h2
        rw [set_at hl] at v2 n2
        rw [set_ne ej] at v1 n1 h1
        rw [set_at (by rw [f.len]; exact hl)] at h2
        exact hinj p (fun d z => v2 d (by rw [z])) (fun z => n2 (by rw [z])) (Option.some.inj h2) j ej v1 n1 h1
      · rw [set_ne ej] at v1 n1 h1
        rw [set_ne ek] at v2 n2 h2
        exact f.inj j k p hjk v1 v2 n1 n2 h1 h2
  en := f.en
  sub0 := f.sub0
  dom0 := f.dom0
theorem FR.setV (f : FR K L0 io0 H0 L io H g e S) (i : Nat) {v : V} {d : Dv} (r : VR K L io H v d) : FR K L0 io0 H0 L io H (g.set i (some v)) (e.set i (.va d)) S :=
  f.setS i (fun d' h => by cases h; exact ⟨v, rfl, r⟩) (fun l h => by cases h) (fun p h => absurd rfl (h d))
theorem FR.setN (f : FR K L0 io0 H0 L io H g e S) (i : Nat) (x : Option V) : FR K L0 io0 H0 L io H (g.set i x) (e.set i .no) S :=
  f.setS i (fun d' h => by cases h) (fun l h => by cases h) (fun p _ h => absurd rfl h)
/-- a volatile thing that no slot of its own holds is changed -/
theorem FR.mutD (f : FR K L0 io0 H0 L io H g e S) {p : Addr} {o : HO} (lp : L p) (np : p ∉ io) (h0 : H0 p = none)
    (hne : ∀ (i : Nat) (q : Addr), (∀ d, e[i]? ≠ some (.va d)) → e[i]? ≠ some .no → e[i]? ≠ none → g[i]? = some (some (.ref q)) → q ≠ p) : FR K L0 io0 H0 L io (upd H p o) g e S where
  st := f.st.mut lp np
  len := f.len
  va := fun i d h => by
    obtain ⟨v, h1, h2⟩ := f.va i d h
    exact ⟨v, h1, h2.mut lp⟩
  own := fun i o h => by
    obtain ⟨q, h1, h2, h3, h4, h5⟩ := f.own i o h
    have : q ≠ p := hne i q (by rw [h]; intro d z; cases z) (by rw [h]; intro z; cases z) (by rw [h]; intro z; cases z) h1
    exact ⟨q, h1, h2, h3, h4, ObR.mono (o := o) h5 (fun u h => by rw [upd_ne this]; exact h) fun v d r => r.mut lp⟩
  inj := f.inj
  en := ⟨f.en.pre, f.en.hn, f.en.new, fun a u h n => by rw [upd_ne (ne_of_none h h0)]; exact f.en.keep a u h n, f.en.up⟩
  sub0 := f.sub0
  dom0 := f.dom0
/-- what a slot of its own holds stands in the heap -/
theorem FR.ownAt (f : FR K L0 io0 H0 L io H g e S) {i : Nat} {q : Addr} (h1 : ∀ d, e[i]? ≠ some (.va d)) (h2 : e[i]? ≠ some .no) (h3 : e[i]? ≠ none) (hg : g[i]? = some (some (.ref q))) : ∃ o, H q = some o ∧ L q := by
  cases h : e[i]? with
  | none => exact absurd h h3
  | some s =>
    cases s with
    | no => exact absurd h h2
    | va d => exact absurd h (h1 d)
    | own o =>
      obtain ⟨p, e1, e2, _, _, e3⟩ := f.own i o h
      rw [hg] at e1
      cases e1
      obtain ⟨u, e4⟩ := ObR.has (o := o) e3
      exact ⟨_, e4, e2⟩
theorem FR.fresh0 (f : FR K L0 io0 H0 L io H g e S) {p : Addr} (h : H p = none) : H0 p = none := by
  rcases f.en.back h with z | z
  · exact absurd h (f.st.dom p (f.en.up p (f.sub0 p z)))
  · exact z
def wipeE (e : Env) : List Nat → Env
  | [] => e
  | v :: vs => (wipeE e vs).set v .no
theorem FR.wipe (f : FR K L0 io0 H0 L io H g e S) : ∀ vs : List Nat, FR K L0 io0 H0 L io H (L2.wipe g vs) (wipeE e vs) S
  | [] => f
  | v :: vs => (FR.wipe f vs).setN v none
end
theorem wipe_get (g : St) : ∀ (vs : List Nat) (k : Nat), (L2.wipe g vs)[k]? = if k ∈ vs then (if k < g.length then some none else none) else g[k]?
  | [], k => by simp [L2.wipe]
  | v :: vs, k => by
    unfold L2.wipe
    rw [List.getElem?_set, L2.wipe_length, wipe_get g vs k]
    by_cases e : v = k
    · subst e; simp
    · rw [if_neg e]
      have : (k ∈ v :: vs) ↔ k ∈ vs := by simp [Ne.symm (a := v) (b := k) e]
      simp only [this]
theorem wipe_ext {g g' : St} {vs : List Nat} (hl : g'.length = g.length) (h : ∀ k, k ∉ vs → g'[k]? = g[k]?) : L2.wipe g' vs = L2.wipe g vs := by
  apply List.ext_getElem?
  intro k
  rw [wipe_get, wipe_get, hl]
  by_cases e : k ∈ vs
  · rw [if_pos e, if_pos e]
  · rw [if_neg e, if_neg e, h k e]
abbrev DG := Dv → Env → Option Env
def TGok (K : Kw) (t : TG) (gd : DG) (vs : List Nat) : Prop := ∀ (L0 : Addr → Prop) (io0 : List Addr) (H0 : Hp) (L : Addr → Prop) (io : List Addr) (H : Hp) (g : St) (e : Env) (S : Sto) (v : V) (d : Dv) (e' : Env) (Q : St → Hp → Prop),
  FR K L0 io0 H0 L io H g e S → VR K L io H v d → gd d e = some e' → (∀ g', FR K L0 io0 H0 L io H g' e' S → g'.length = g.length → (∀ k, k ∉ vs → g'[k]? = g[k]?) → Q g' H) → t v g H Q
def tgR (K : Kw) (gd : DG) (vs : List Nat) : TG := fun v g H Q => ∃ (L0 : Addr → Prop) (io0 : List Addr) (H0 : Hp) (L : Addr → Prop) (io : List Addr) (e : Env) (S : Sto) (d : Dv) (e' : Env), FR K L0 io0 H0 L io H g e S ∧ VR K L io H v d ∧ gd d e = some e' ∧
  ∀ g', FR K L0 io0 H0 L io H g' e' S → g'.length = g.length → (∀ k, k ∉ vs → g'[k]? = g[k]?) → Q g' H
theorem tgR_ok {K : Kw} {gd : DG} {vs : List Nat} : TGok K (tgR K gd vs) gd vs := fun L0 io0 H0 L io H g e S v d e' Q fr r h q => ⟨L0, io0, H0, L, io, e, S, d, e', fr, r, h, q⟩
/-- a target, and the slots that it may change -/
def QG (X : Cx) (tg : Expr) (gd : DG) (vs : List Nat) : Prop := ∃ t, PG X tg t ∧ TGok X.kw t gd vs
theorem QG.canon {X : Cx} {tg : Expr} {gd : DG} {vs : List Nat} (h : QG X tg gd vs) : PG X tg (tgR X.kw gd vs) := by
  obtain ⟨t, p, o⟩ := h
  refine ⟨fun pins s g H v u Q I r q => p.run pins s g H v u Q I r ?_⟩
  obtain ⟨L0, io0, H0, L, io, e, S, d, e', fr, rv, hd, q⟩ := q
  exact o L0 io0 H0 L io H g e S v d e' Q fr rv hd q
def gN (i : Nat) : DG := fun d e => some (e.set i (.va d))
abbrev DGs := List Dv → Env → Option Env
def TGsok (K : Kw) (t : TGs) (gd : DGs) (vs : List Nat) : Prop := ∀ (L0 : Addr → Prop) (io0 : List Addr) (H0 : Hp) (L : Addr → Prop) (io : List Addr) (H : Hp) (g : St) (e : Env) (S : Sto) (v : List V) (d : List Dv) (e' : Env) (Q : St → Hp → Prop),
  FR K L0 io0 H0 L io H g e S → VRs K L io H v d → gd d e = some e' → (∀ g', FR K L0 io0 H0 L io H g' e' S → g'.length = g.length → (∀ k, k ∉ vs → g'[k]? = g[k]?) → Q g' H) → t v g H Q
def QGs (X : Cx) (ts : List Expr) (gd : DGs) (n : Nat) (vs : List Nat) : Prop := (∃ t, PGs X ts t ∧ TGsok X.kw t gd vs) ∧ ∀ l e e', gd l e = some e' → l.length = n
def gsNil : DGs := fun l e => match l with
  | [] => some e
  | _ => none
def gsCons (g : DG) (gs : DGs) : DGs := fun l e => match l with
  | d :: r => (g d e).bind fun e' => gs r e'
  | [] => none
def gT (gs : DGs) : DG := fun d e => (asT d).bind fun l => gs l e
section
variable {X : Cx} {pos : Pos} {x : Str} {i : Nat} {tg : Expr} {ts : List Expr} {gd : DG} {gds : DGs} {vs ws : List Nat} {n : Nat}
theorem qg_name (hN : X.N.Nodup) (i : Nat) (hi : X.N[i]? = some x := by rfl) (hx : Loc X.env.scope x := by first | exact Or.inl rfl | exact Or.inr rfl) (hf : X.fn x = true ∨ X.env.scope.names.lookup x = some .local := by first | exact .inl rfl | exact .inr rfl) : QG X (.Name x pos) (gN i) [i] := by
  refine ⟨gName i, pg_name hN hi hx hf, fun L0 io0 H0 L io H g e S v d e' Q fr r h q => ?_⟩
  cases h
  exact q _ (fr.setV i r) (List.length_set ..) fun k hk => set_ne (by simpa using hk)
theorem qgs_nil : QGs X [] gsNil 0 [] := by
  refine ⟨⟨gNil, pgs_nil, fun L0 io0 H0 L io H g e S v d e' Q fr r h q => ?_⟩, fun l e e' h => ?_⟩
  · cases r with
    | nil => cases h; exact ⟨rfl, q _ fr rfl fun _ _ => rfl⟩
    | cons => cases h
  · cases l with
    | nil => rfl
    | cons => cases h
theorem qgs_cons (h1 : QG X tg gd vs) (h2 : QGs X ts gds n ws) (hp : ∀ {t u}, PG X tg t → PGs X ts u → PGs X (tg :: ts) (gCons t u) := by intro _ _ a b; exact pgs_cons a b) : QGs X (tg :: ts) (gsCons gd gds) (n + 1) (vs ++ ws) := by
  obtain ⟨t, p1, o1⟩ := h1
  obtain ⟨⟨u, p2, o2⟩, hn⟩ := h2
  refine ⟨⟨gCons t u, hp p1 p2, fun L0 io0 H0 L io H g e S v d e' Q fr r h q => ?_⟩, fun l e e' h => ?_⟩
  · cases r with
    | nil => cases h
    | cons ra rt =>
      rename_i v vs' d ds
      simp only [gsCons] at h
      cases h3 : gd d e with
      | none => rw [h3] at h; cases h
      | some e1 =>
        rw [h3] at h
        refine ⟨v, vs', rfl, o1 L0 io0 H0 L io H g e S v d e1 _ fr ra h3 fun g1 fr1 l1 k1 => ?_⟩
        refine o2 L0 io0 H0 L io H g1 e1 S vs' ds e' _ fr1 rt h fun g2 fr2 l2 k2 => ?_
        exact q g2 fr2 (l2.trans l1) fun k hk => (k2 k fun z => hk (List.mem_append_right _ z)).trans (k1 k fun z => hk (List.mem_append_left _ z))
  · cases l with
    | nil => cases h
    | cons d ds =>
      simp only [gsCons] at h
      cases h3 : gd d e with
      | none => rw [h3] at h; cases h
      | some e1 => rw [h3] at h; rw [List.length_cons, hn ds e1 e' h]
theorem qg_tup {k : Nat} (hc : X.calm = true) (h : QGs X ts gds n vs) (hn : (assignEach ts X.env).length = n := by rfl) (hst : (assignEach ts X.env).findIdx? (·.1) = none := by rfl) : QG X (.Tuple ts k pos) (gT gds) vs := by
  obtain ⟨⟨t, p, o⟩, hl⟩ := h
  refine ⟨gTup X.kw n t, pg_tup hc p hn hst, fun L0 io0 H0 L io H g e S v d e' Q fr r h q => ?_⟩
  unfold gT at h
  cases h1 : asT d with
  | none => rw [h1] at h; cases h
  | some l =>
    rw [h1] at h
    obtain ⟨a, xs, rfl, hs, t'⟩ := asT_ok r h1
    exact ⟨a, xs, rfl, hs, by rw [t'.len]; exact hl l e e' h, o L0 io0 H0 L io H g e S xs l e' Q fr t' h q⟩
end
structure WalkR (K : Kw) (L : Addr → Prop) (io : List Addr) (H : Hp) (J : It) (l : List Dv) : Prop where
  go : ∀ (L1 : Addr → Prop) (io1 : List Addr) (H1 : Hp) (S : Sto) (i : Nat) (d : Dv), Stw L io H L1 io1 H1 → SR K L1 io1 H1 S → l[i]? = some d → J.go i H1 ∧ ∀ x H2, J.yld i H1 x H2 → SR K L1 io1 H2 S ∧ Stp L1 io1 H1 L1 io1 H2 ∧ VR K L1 io1 H2 x d
  stop : ∀ (L1 : Addr → Prop) (io1 : List Addr) (H1 : Hp), Stw L io H L1 io1 H1 → J.stop l.length H1
def FinI (K : Kw) (W : WX) (g : St) (L : Addr → Prop) (io : List Addr) (H : Hp) (R : It → Hp → Prop) : Res (List Dv) → Prop
  | .ok l S' => ∀ (J : It) (H' : Hp) (L' : Addr → Prop) (io' : List Addr), Stp L io H L' io' H' → SR K L' io' H' S' → WalkR K L' io' H' J l → R J H'
  | .ex c fs S' => ∀ (x : Option Addr) (H' : Hp) (L' : Addr → Prop) (io' : List Addr), Stp L io H L' io' H' → SR K L' io' H' S' → ExR K L' io' H' x fs → W (.ref (He.ga K c)) x g H'
  | .no => False
def rdi (K : Kw) (W : WX) (f : DL) : TI := fun g H R => ∃ (L0 : Addr → Prop) (io0 : List Addr) (H0 : Hp) (L : Addr → Prop) (io : List Addr) (e : Env) (S : Sto), FR K L0 io0 H0 L io H g e S ∧ FinI K W g L io H R (f e S)
abbrev QI (X : Cx) (W : WX) (tg e : Expr) (f : DL) : Prop := PI X tg e (rdi X.kw W f)
theorem FinI.bind {α β : Type} {K : Kw} {W : WX} {R : (Addr → Prop) → List Addr → Hp → β → α → Prop} {f : Env → Sto → Res α} {k : α → Sto → Res (List Dv)} {g : St} {L0 L : Addr → Prop} {io0 io : List Addr} {H0 H : Hp} {e : Env} {S : Sto} {Q : It → Hp → Prop} {P : β → Hp → Prop}
    (fr : FR K L0 io0 H0 L io H g e S) (h : FinI K W g L io H Q (bnd (f e S) k))
    (n : ∀ (L1 : Addr → Prop) (io1 : List Addr) (H1 : Hp) (S1 : Sto) (a : α) (v : β), Stp L io H L1 io1 H1 → FR K L0 io0 H0 L1 io1 H1 g e S1 → R L1 io1 H1 v a → FinI K W g L1 io1 H1 Q (k a S1) → P v H1) : Rdg K W R f g H P := by
  refine ⟨L0, io0, H0, L, io, e, S, fr, ?_⟩
  cases hf : f e S with
  | ok a S1 =>
    rw [hf] at h
    intro v H1 L1 io1 s1 sr1 r1
    have h : FinI K W g L io H Q (k a S1) := h
    refine n L1 io1 H1 S1 a v s1 (fr.step s1 sr1) r1 ?_
    cases hk : k a S1 with
    | ok l S2 =>
      rw [hk] at h
      exact fun v H' L' io' s2 sr r2 => h v H' L' io' (s1.trans s2 fr.st.sub) sr r2
    | ex c fs S2 =>
      rw [hk] at h
      exact fun v H' L' io' s2 sr r2 => h v H' L' io' (s1.trans s2 fr.st.sub) sr r2
    | no => rw [hk] at h; exact h
  | ex c fs S1 => rw [hf] at h; exact h
  | no => rw [hf] at h; exact h
section
variable {K : Kw} {L : Addr → Prop} {io : List Addr} {H : Hp}
theorem SqT.stw {a : Addr} {xs : List V} {ds : List Dv} {L1 : Addr → Prop} {io1 : List Addr} {H1 : Hp} {v : V} (r : VR K L io H v (.tup ds)) (s : Stw L io H L1 io1 H1) : ∃ a xs, v = .ref a ∧ SqT K H1 a xs ∧ VRs K L1 io1 H1 xs ds := (r.stw s).tupS
theorem walk_tup {a : Addr} {ds : List Dv} (r : VR K L io H (.ref a) (.tup ds)) : WalkR K L io H (Itt K a) ds where
  go := fun L1 io1 H1 S i d s sr h => by
    obtain ⟨a', xs, e, hs, t⟩ := (r.stw s).tupS
    cases e
    obtain ⟨v, h1, h2⟩ := t.get h
    refine ⟨⟨xs, v, hs, h1⟩, fun x H2 ⟨e, y⟩ => ?_⟩
    subst e
    have := y xs hs
    rw [h1] at this
    cases this
    exact ⟨sr, Stp.refl .., h2⟩
  stop := fun L1 io1 H1 s => by
    obtain ⟨a', xs, e, hs, t⟩ := (r.stw s).tupS
    cases e
    exact ⟨xs, hs, by rw [t.len]; exact Nat.le_refl _⟩
/-- a list that no handle holds -/
def asF : Dv → Option (List Dv)
  | .lst l => some l
  | .rol l => some l
  | _ => none
theorem asF_ok {v : V} {d : Dv} {l : List Dv} (r : VR K L io H v d) (h : asF d = some l) : ∃ a xs, v = .ref a ∧ SqL K H a xs ∧ VRs K L io H xs l := by
  cases r with
  | lst nl e t => cases h; exact ⟨_, _, rfl, SqL.of e, t⟩
  | rol nl e t => cases h; exact ⟨_, _, rfl, .inl e, t⟩
  | rolK e t => cases h; exact ⟨_, _, rfl, e H, t⟩
  | _ => cases h
theorem walk_lst {a : Addr} {d : Dv} {ds : List Dv} (r : VR K L io H (.ref a) d) (h : asF d = some ds) : WalkR K L io H (Itl K a) ds where
  go := fun L1 io1 H1 S i d s sr hd => by
    obtain ⟨a', xs, e, hs, t⟩ := asF_ok (r.stw s) h
    cases e
    obtain ⟨v, h1, h2⟩ := t.get hd
    refine ⟨⟨xs, v, hs, h1⟩, fun x H2 ⟨e, y⟩ => ?_⟩
    subst e
    have := y xs hs
    rw [h1] at this
    cases this
    exact ⟨sr, Stp.refl .., h2⟩
  stop := fun L1 io1 H1 s => by
    obtain ⟨a', xs, e, hs, t⟩ := asF_ok (r.stw s) h
    cases e
    exact ⟨xs, hs, by rw [t.len]; exact Nat.le_refl _⟩
def rngD (lo : Int) (n : Nat) : List Dv := (List.range n).map fun (i : Nat) => Dv.int (lo + (i : Int))
theorem walk_rng {lo : Int} {n : Nat} : WalkR K L io H (Itr lo n) (rngD lo n) where
  go := fun L1 io1 H1 S i d s sr hd => by
    unfold rngD at hd
    rw [List.getElem?_map] at hd
    cases e : (List.range n)[i]? with
    | none => rw [e] at hd; cases hd
    | some j =>
      rw [e] at hd
      have hi := (List.getElem?_eq_some_iff.mp e)
      obtain ⟨h1, h2⟩ := hi
      rw [List.getElem_range] at h2
      subst h2
      cases hd
      rw [List.length_range] at h1
      refine ⟨h1, fun x H2 ⟨e, y⟩ => ?_⟩
      subst e y
      exact ⟨sr, Stp.refl .., .int _⟩
  stop := fun L1 io1 H1 s => by
    show n ≤ (rngD lo n).length
    unfold rngD
    rw [List.length_map, List.length_range]
    exact Nat.le_refl _
end
section
variable {X : Cx} {W : WX} {pos p : Pos} {tg a b : Expr} {f f2 : DE}
/-- what pyIter gives of a value -/
def IterR (X : Cx) (tg : Expr) (r : V → Hp → (It → Hp → Prop) → Prop) : Prop := ∀ (pins : List (Addr × Obj)) (s : Shared) (g : St) (H : Hp) (x : V) (v : Value) (R : It → Hp → Prop), Inv X pins g H s → RelV x v → r x H R → wpAny (model X.prog X.w) X.A (pyIter v) (PIE X pins g tg R) X.xe s
theorem IterR.or' {r r' : V → Hp → (It → Hp → Prop) → Prop} (h : IterR X tg r) (h' : IterR X tg r') : IterR X tg (fun x H R => r x H R ∨ r' x H R) := fun pins s g H x v R I rx q => q.elim (h pins s g H x v R I rx) (h' pins s g H x v R I rx)
theorem pi_of {l : Expr} {tl : TE} {r : V → Hp → (It → Hp → Prop) → Prop} (hl : PE X l tl) (hr : IterR X tg r) : PI X tg l (fun g H R => tl g H fun x H1 => r x H1 R) :=
  ⟨fun pins s g H R I h => thn (hl.run pins s g H _ I h) fun v s1 ⟨x, H1, I1, r1, q1⟩ => hr pins s1 g H1 x v R I1 r1 q1⟩
theorem iter_lst : IterR X tg (fun x H R => ∃ a, x = .ref a ∧ (∃ xs, SqL X.kw H a xs) ∧ R (Itl X.kw a) H) := by
  rintro pins s g H x v R I rx ⟨a, rfl, ⟨xs, hq⟩, q⟩
  obtain rfl : v = .ref a := rx
  obtain ⟨its, rv, p, hz⟩ := I.list hq
  exact wpAny_pyIter_list p.isList ⟨_, _, _, _, H, rfl, I.kept (t' := s.toks) fun b o e => Heap.get?_push_of_some _ e, turn_list a _, ⟨_, Heap.get?_push_size _ rfl, rfl, rfl⟩, fun b hb => by
    rw [show b = s.heap.objs.size from by simpa using hb]
    exact I.fpOk (Nat.le_refl _) (I.hok.fresh (Nat.le_refl _)), q⟩
theorem iter_tup : IterR X tg (fun x H R => ∃ a, x = .ref a ∧ (∃ xs, SqT X.kw H a xs) ∧ R (Itt X.kw a) H) := by
  rintro pins s g H x v R I rx ⟨a, rfl, ⟨xs, hq⟩, q⟩
  obtain rfl : v = .ref a := rx
  obtain ⟨its, rv, p, hz⟩ := I.tuple hq
  exact wpAny_pyIter_tuple (show s.heap.IsTuple a its.toArray from p) ⟨_, _, _, _, H, rfl, I.kept (t' := s.toks) fun b o e => Heap.get?_push_of_some _ e, turn_tuple a _, ⟨_, Heap.get?_push_size _ rfl, rfl, rfl⟩, fun b hb => by
    rw [show b = s.heap.objs.size from by simpa using hb]
    exact I.fpOk (Nat.le_refl _) (I.hok.fresh (Nat.le_refl _)), q⟩
theorem iter_str : IterR X tg (fun x H R => ∃ z, x = .str z ∧ R (Its z) H) := by
  rintro pins s g H x v R I rx ⟨z, rfl, q⟩
  obtain ⟨t, rfl⟩ := rx
  cases ha : z.cps.all (· < 128)
  · exact wpAny_pyIter_wide ha (pi_one (tk := s.toks) I _ (turn_str _ z t "str_iterator" (.inr rfl)) ⟨_, Heap.get?_push_size _ rfl, rfl, rfl⟩ q)
  · exact wpAny_pyIter_ascii ha (pi_one (tk := s.toks) I _ (turn_str _ z t "str_ascii_iterator" (.inl rfl)) ⟨_, Heap.get?_push_size _ rfl, rfl, rfl⟩ q)
def strL (z : Str) : List Dv := z.cps.toList.map fun c => Dv.str ⟨#[c]⟩
theorem walk_str {K : Kw} {L : Addr → Prop} {io : List Addr} {H : Hp} {z : Str} : WalkR K L io H (Its z) (strL z) where
  go := fun L1 io1 H1 S i d s sr hd => by
    unfold strL at hd
    rw [List.getElem?_map] at hd
    cases e : z.cps.toList[i]? with
    | none => rw [e] at hd; cases hd
    | some c =>
      rw [e] at hd
      cases hd
      have hi := (List.getElem?_eq_some_iff.mp e).1
      refine ⟨(by simpa using hi : i < z.cps.size), fun x H2 ⟨e2, c', y1, y2⟩ => ?_⟩
      subst e2 y2
      have : c' = c := by
        rw [Array.getElem?_toList] at e
        rw [e] at y1
        exact (Option.some.inj y1).symm
      subst this
      exact ⟨sr, Stp.refl .., .str _⟩
  stop := fun L1 io1 H1 s => by
    show z.cps.size ≤ (strL z).length
    unfold strL
    simp
def seqR (d : Dv) (S : Sto) : Res (List Dv) := match d with
  | .tup l => .ok l S
  | .lst l => .ok l S
  | .rol l => .ok l S
  | .str z => .ok (strL z) S
  | _ => .no
def iSq (f : DE) : DL := fun e S => bnd (f e S) seqR
theorem qi_seq (h : QE X W a f) : QI X W tg a (iSq f) := by
  have hp := pi_of h (IterR.or' (iter_lst (X := X) (tg := tg)) (IterR.or' iter_tup iter_str))
  refine ⟨fun pins s g H R I q => hp.run pins s g H R I ?_⟩
  obtain ⟨L0, io0, H0, L, io, e, S, fr, q⟩ := q
  refine FinI.bind (R := VR X.kw) (k := seqR) fr q fun L1 io1 H1 S1 d v s1 fr1 r1 q => ?_
  cases d with
  | tup l =>
    obtain ⟨a, xs, rfl, hs, t⟩ := r1.tupS
    exact .inr (.inl ⟨a, rfl, ⟨xs, hs⟩, q _ H1 L1 io1 (Stp.refl ..) fr1.st (walk_tup r1)⟩)
  | lst l =>
    obtain ⟨a, xs, rfl, hs, t⟩ := asF_ok r1 rfl
    exact .inl ⟨a, rfl, ⟨xs, hs⟩, q _ H1 L1 io1 (Stp.refl ..) fr1.st (walk_lst r1 rfl)⟩
  | rol l =>
    obtain ⟨a, xs, rfl, hs, t⟩ := asF_ok r1 rfl
    exact .inl ⟨a, rfl, ⟨xs, hs⟩, q _ H1 L1 io1 (Stp.refl ..) fr1.st (walk_lst r1 rfl)⟩
  | str z =>
    cases r1
    exact .inr (.inr ⟨z, rfl, q _ H1 L1 io1 (Stp.refl ..) fr1.st walk_str⟩)
  | _ => exact q.elim
def rngR1 : List Dv → Sto → Res (List Dv)
  | [.int j], S => if -(2 ^ 62) ≤ j ∧ j < 2 ^ 62 then .ok (rngD 0 j.toNat) S else .no
  | _, _ => .no
def rngR2 : List Dv → Sto → Res (List Dv)
  | [.int i, .int j], S => if -(2 ^ 62) ≤ i ∧ i < 2 ^ 62 ∧ -(2 ^ 62) ≤ j ∧ j < 2 ^ 62 then .ok (rngD i (j - i).toNat) S else .no
  | _, _ => .no
def iRng1' (fa : DA) : DL := fun e S => bnd (fa e S) rngR1
def iRng2' (fa : DA) : DL := fun e S => bnd (fa e S) rngR2
theorem qi_range1 (hm : X.mg "range" = none) {fa : DA} (ha : QA X W [a] fa) (hg : Gl X "range" := by rfl) (hs : starEach [a] X.env = [(false, eval a X.env)] := by rfl) : QI X W tg (.Call (.Name "range" p) [a] [] pos) (iRng1' fa) := by
  have hp := pi_range1 (tg := tg) (p := p) (pos := pos) hg hm ha hs
  refine ⟨fun pins s g H R I q => hp.run pins s g H R I ?_⟩
  obtain ⟨L0, io0, H0, L, io, e, S, fr, q⟩ := q
  refine FinI.bind (R := VRs X.kw) (k := rngR1) fr q fun L1 io1 H1 S1 l v s1 fr1 r1 q => ?_
  cases r1 with
  | nil => exact q.elim
  | cons r t =>
    cases r with
    | int j =>
      cases t with
      | nil =>
        simp only [rngR1] at q
        split at q
        · rename_i h
          exact ⟨j, rfl, h.1, h.2, q _ H1 L1 io1 (Stp.refl ..) fr1.st walk_rng⟩
        · exact q.elim
      | cons r2 t2 => exact q.elim
    | _ => exact q.elim
end
end DL
namespace DL
open PySem L2
def W0 : WX := fun _ _ _ _ => False
def lcR (tg : DG) (tt : DT) (te : DE) (e : Env) : List Dv → Sto → Res (List Dv)
  | [], S => .ok [] S
  | d :: ds, S => match tg d e with
    | none => .no
    | some e' => match tt e' S with
      | .ok b S1 => if b then (match te e' S1 with
          | .ok y S2 => (match lcR tg tt te e ds S2 with
            | .ok l S3 => .ok (y :: l) S3
            | _ => .no)
          | _ => .no) else lcR tg tt te e ds S1
      | _ => .no
def fLc (fi : DL) (tg : DG) (tt : DT) (te : DE) (vs : List Nat) : DL := fun e S => bnd (fi e S) fun ds S1 => match lcR tg tt te (wipeE e vs) ds S1 with
  | .ok l S2 => if l.length ≤ sizeLine then .ok l S2 else .no
  | _ => .no
def tTrue : DT := fun _ S => .ok true S
abbrev QTs (X : Cx) (W : WX) (es : List Expr) (f : DT) : Prop := PTs X es (rdt X.kw W f)
theorem pts_imp {X : Cx} {e : List Expr} {t t' : TT} (h : PTs X e t) (i : ∀ g H Q, t' g H Q → t g H Q) : PTs X e t' := ⟨fun pins s g H Q I q => h.run pins s g H Q I (i g H Q q)⟩
theorem qts_nil {X : Cx} {W : WX} : QTs X W [] tTrue := pts_imp pts_nil fun g H Q q => by
  obtain ⟨L0, io0, H0, L, io, e, S, fr, q⟩ := q
  exact q.ok1 fr.st rfl
theorem FinI.bindF {K : Kw} {W : WX} {f : DL} {k : List Dv → Sto → Res (List Dv)} {g : St} {L0 L : Addr → Prop} {io0 io : List Addr} {H0 H : Hp} {e : Env} {S : Sto} {Q : V → Hp → Prop} {P : It → Hp → Prop}
    (fr : FR K L0 io0 H0 L io H g e S) (h : FinF K W g L io H Q (bnd (f e S) k))
    (n : ∀ (L1 : Addr → Prop) (io1 : List Addr) (H1 : Hp) (S1 : Sto) (a : List Dv) (J : It), Stp L io H L1 io1 H1 → FR K L0 io0 H0 L1 io1 H1 g e S1 → WalkR K L1 io1 H1 J a → FinF K W g L1 io1 H1 Q (k a S1) → P J H1) : rdi K W f g H P := by
  refine ⟨L0, io0, H0, L, io, e, S, fr, ?_⟩
  cases hf : f e S with
  | ok a S1 =>
    rw [hf] at h
    intro v H1 L1 io1 s1 sr1 r1
    have h : FinF K W g L io H Q (k a S1) := h
    refine n L1 io1 H1 S1 a v s1 (fr.step s1 sr1) r1 ?_
    cases hk : k a S1 with
    | ok l S2 =>
      rw [hk] at h
      intro v H' L' io' s2 sr2 ⟨p, xs, e1, e2, e3⟩
      refine h v H' L' io' (s1.trans s2 fr.st.sub) sr2 ⟨p, xs, e1, ?_, e3⟩
      rcases s1.back e2 with z | z
      · exact absurd e2 (sr1.dom p (s1.up p (fr.st.sub p z)))
      · exact z
    | ex c fs S2 =>
      rw [hk] at h
      exact fun v H' L' io' s2 sr r2 => h v H' L' io' (s1.trans s2 fr.st.sub) sr r2
    | no => rw [hk] at h; exact h
  | ex c fs S1 => rw [hf] at h; exact h
  | no => rw [hf] at h; exact h
section
variable {X : Cx} {W : WX} {elt tg iter : Expr} {ifs : List Expr} {scope : Scope} {own : List (Str × Nat)} {pos : Pos} {fi : DL} {gd : DG} {tt : DT} {te : DE} {vs : List Nat}
theorem rd_lc {K : Kw} {t : TG} (ho : TGok K t gd vs) {g : St} {H : Hp} {Q : VK} (q : rdF K W (fLc fi gd tt te vs) g H Q) : tLc (rdi K W fi) t (rdt K W0 tt) (rd K W0 te) vs g H Q := by
  obtain ⟨L0, io0, H0, L, io, e, S, fr, q⟩ := q
  refine FinI.bindF (k := fun ds S1 => match lcR gd tt te (wipeE e vs) ds S1 with
    | .ok l S2 => if l.length ≤ sizeLine then .ok l S2 else .no
    | _ => .no) fr q fun L1 io1 H1 S1 ds J s1 fr1 wk q => ?_
  cases hl : lcR gd tt te (wipeE e vs) ds S1 with
  | ex c fs S2 => rw [hl] at q; exact q.elim
  | no => rw [hl] at q; exact q.elim
  | ok l S2 =>
    rw [hl] at q
    simp only at q
    split at q
    · rename_i hz
      intro D hD
      have st0 := fr1.st
      -- the invariant
      refine ⟨fun i m H' => m = ds.length - i ∧ i ≤ ds.length ∧ ∃ (L' : Addr → Prop) (io' : List Addr) (S' : Sto) (acc : List V) (da dr : List Dv), FR K L0 io0 H0 L' io' H' (L2.wipe g vs) (wipeE e vs) S' ∧ Stp L1 io1 H1 L' io' H' ∧ Stw L1 io1 H1 L' io' H' ∧ L' D ∧ D ∉ io' ∧ H' D = some (.lst acc) ∧ VRs K L' io' H' acc da ∧ lcR gd tt te (wipeE e vs) (ds.drop i) S' = .ok dr S2 ∧ da ++ dr = l, ⟨ds.length, by simp, Nat.zero_le _, ?_⟩, ?_⟩
      · have s2 : Stp L1 io1 H1 (Ly L1 D) io1 (upd H1 D (.lst [])) := Stp.newV hD
        exact ⟨Ly L1 D, io1, S1, [], [], l, (fr1.step s2 (st0.newV hD)).wipe vs, s2, s2.stw st0.sub, .inr rfl, fun z => st0.dom D (st0.sub D z) hD, upd_same, .nil, by rw [List.drop_zero]; exact hl, rfl⟩
      · rintro i m H' ⟨rfl, hi, L', io', S', acc, da, dr, fr', sp, sw, lD, nD, hDa, ra, hr, hda⟩
        by_cases hlt : i < ds.length
        · obtain ⟨d, hd⟩ : ∃ d, ds[i]? = some d := ⟨_, List.getElem?_eq_getElem hlt⟩
          have hdrop : ds.drop i = d :: ds.drop (i + 1) := by
            rw [List.drop_eq_getElem_cons hlt]
            rw [List.getElem?_eq_getElem hlt] at hd
            cases hd
            rfl
          rw [hdrop] at hr
          obtain ⟨hgo, hy⟩ := wk.go L' io' H' S' i d sw fr'.st hd
          refine .inr ⟨hgo, fun H'' => ∃ m', m' < ds.length - i ∧ (m' = ds.length - (i + 1) ∧ i + 1 ≤ ds.length ∧ ∃ (L' : Addr → Prop) (io' : List Addr) (S' : Sto) (acc : List V) (da dr : List Dv), FR K L0 io0 H0 L' io' H'' (L2.wipe g vs) (wipeE e vs) S' ∧ Stp L1 io1 H1 L' io' H'' ∧ Stw L1 io1 H1 L' io' H'' ∧ L' D ∧ D ∉ io' ∧ H'' D = some (.lst acc) ∧ VRs K L' io' H'' acc da ∧ lcR gd tt te (wipeE e vs) (ds.drop (i + 1)) S' = .ok dr S2 ∧ da ++ dr = l), fun H'' h => h, fun x H2 y => ?_⟩
          obtain ⟨sr2, sp2, r2⟩ := hy x H2 y
          have fr2 := fr'.step sp2 sr2
          -- the target
          simp only [lcR] at hr
          cases hg : gd d (wipeE e vs) with
          | none => rw [hg] at hr; cases hr
          | some e' =>
            rw [hg] at hr
            simp only at hr
            refine ho L0 io0 H0 L' io' H2 (L2.wipe g vs) (wipeE e vs) S' x d e' _ fr2 r2 hg fun g' fr3 lg kg => ⟨?_, ?_⟩
            · exact (wipe_ext lg kg).trans (wipe_ext (L2.wipe_length g vs) fun k hk => by rw [wipe_get, if_neg hk])
            -- the test
            · cases ht : tt e' S' with
              | ex c fs S3 => rw [ht] at hr; cases hr
              | no => rw [ht] at hr; cases hr
              | ok b S3 =>
                rw [ht] at hr
                simp only at hr
                refine ⟨L0, io0, H0, L', io', e', S', fr3, ?_⟩
                rw [ht]
                intro b' H3 L3 io3 s3 sr3 eb
                subst eb
                have fr3' := fr2.step s3 sr3
                have sp3 := (sp.trans sp2 st0.sub).trans s3 st0.sub
                have sw3 := (sw.trans (sp2.stw fr'.st.sub)).trans (s3.stw fr2.st.sub)
                have l3 : L3 D := s3.up D (sp2.up D lD)
                have k2 : H2 D = some (.lst acc) := sp2.keep D _ hDa nD
                have n3 : D ∉ io3 := fun z => by
                  rcases s3.hn D z with q | q
                  · exact nD q
                  · rw [q] at k2; cases k2
                have k3 : H3 D = some (.lst acc) := s3.keep D _ k2 nD
                have ra3 := (ra.step sp2 fr'.st.sub).step s3 fr2.st.sub
                cases b' with
                | false =>
                  rw [if_neg Bool.false_ne_true] at hr
                  refine iteF ⟨_, by omega, rfl, hlt, L3, io3, S3, acc, da, dr, fr3', sp3, sw3, l3, n3, k3, ra3, hr, hda⟩
                | true =>
                  rw [if_pos rfl] at hr
                  refine iteT ?_
                  -- the element
                  cases he : te e' S3 with
                  | ex c fs S4 => rw [he] at hr; cases hr
                  | no => rw [he] at hr; cases hr
                  | ok y' S4 =>
                    rw [he] at hr
                    simp only at hr
                    refine ⟨L0, io0, H0, L3, io3, e', S3, fr3.step s3 sr3, ?_⟩
                    rw [he]
                    intro y H4 L4 io4 s4 sr4 ry
                    have k4 : H4 D = some (.lst acc) := s4.keep D _ k3 n3
                    have l4 : L4 D := s4.up D l3
                    have n4 : D ∉ io4 := fun z => by
                      rcases s4.hn D z with q | q
                      · exact n3 q
                      · rw [q] at k3; cases k3
                    have fr4 := fr3'.step s4 sr4
                    have sp4 := sp3.trans s4 st0.sub
                    have sw4 := sw3.trans (s4.stw fr3'.st.sub)
                    have ra4 := ra3.step s4 fr3'.st.sub
                    cases hrest : lcR gd tt te (wipeE e vs) (ds.drop (i + 1)) S4 with
                    | ex c fs S5 => rw [hrest] at hr; cases hr
                    | no => rw [hrest] at hr; cases hr
                    | ok l' S5 =>
                      rw [hrest] at hr
                      cases hr
                      have hlen : acc.length < sizeLine := by
                        rw [ra.len]
                        rw [← hda, List.length_append, List.length_cons] at hz
                        omega
                      have hD1 : H1 D = none := hD
                      have frm : FR K L0 io0 H0 L4 io4 (upd H4 D (.lst (acc ++ [y]))) (L2.wipe g vs) (wipeE e vs) S4 := by
                        refine fr4.mutD l4 n4 (fr1.fresh0 hD) fun j q' v1 v2 v3 hg' => ?_
                        obtain ⟨o, ho', _⟩ := (fr1.wipe vs).ownAt v1 v2 v3 hg'
                        exact ne_of_none ho' hD
                      refine ⟨acc, k4, hlen, _, by omega, rfl, hlt, L4, io4, S4, acc ++ [y], da ++ [y'], l', frm, ?_, sw4.trans (Stw.mut l4), l4, n4, upd_same, (ra4.app (.cons ry .nil)).mut l4, hrest, by rw [List.append_assoc]; exact hda⟩
                      exact ⟨sp4.pre, sp4.hn, sp4.new, fun a o h n => by rw [upd_ne (ne_of_none h hD1)]; exact sp4.keep a o h n, sp4.up⟩
        · have ei : i = ds.length := by omega
          subst ei
          rw [List.drop_length] at hr
          cases hr
          rw [List.append_nil] at hda
          subst hda
          refine .inl ⟨wk.stop L' io' H' sw, ?_⟩
          exact q _ H' L' io' sp fr'.st ⟨D, acc, rfl, hD, lD, nD, hDa, ra⟩
    · exact q.elim
theorem qf_lc (hc : X.calm = true) (hN : X.N.Nodup) (hi : QI X W tg iter fi) (ok : BlkOk X.N X.env.scope scope own)
    (hg : ∀ (s : Shared) (H : Hp) (C : Addr) (cl : List (Str × Addr)) (fp : List Addr), QG (X.blk s H scope (compEnvC scope cl C X.env) fp) tg gd (own.map (·.2)))
    (ht : ∀ (s : Shared) (H : Hp) (C : Addr) (cl : List (Str × Addr)) (fp : List Addr), QTs (X.blk s H scope (compEnvC scope cl C X.env) fp) W0 ifs tt)
    (he : ∀ (s : Shared) (H : Hp) (C : Addr) (cl : List (Str × Addr)) (fp : List Addr), QE (X.blk s H scope (compEnvC scope cl C X.env) fp) W0 elt te) (hs : ∀ x, foldedSetIterable iter X.env x = pure x := by intro _; rfl) :
    QF X W (.ListComp elt [⟨tg, iter, ifs, 0⟩] scope pos) (fLc fi gd tt te (own.map (·.2))) :=
  pe_imp (pe_lc (g := tgR X.kw gd (own.map (·.2))) (tt := rdt X.kw W0 tt) (te := rd X.kw W0 te) hc hN hi ok (fun s H C cl fp => (hg s H C cl fp).canon) ht he hs) fun g H Q q => rd_lc tgR_ok q
end
end DL
namespace DL
open PySem L2
inductive Out where
  | nx (e : Env) (S : Sto) | rt (d : Dv) (S : Sto) | bk (e : Env) (S : Sto) | ct (e : Env) (S : Sto) | ex (c : Str) (fs : List (Str × Dv)) (e : Env) (S : Sto) | no
abbrev DS := Env → Sto → Out
def outR (K : Kw) (W : WX) (L0 : Addr → Prop) (io0 : List Addr) (H0 : Hp) (D : Ends) (L : Addr → Prop) (io : List Addr) (H : Hp) : Out → Prop
  | .nx e S => ∀ (g : St) (H' : Hp) (L' : Addr → Prop) (io' : List Addr), Stw L io H L' io' H' → FR K L0 io0 H0 L' io' H' g e S → D.nx g H'
  | .bk e S => ∀ (g : St) (H' : Hp) (L' : Addr → Prop) (io' : List Addr), Stw L io H L' io' H' → FR K L0 io0 H0 L' io' H' g e S → D.bk g H'
  | .ct e S => ∀ (g : St) (H' : Hp) (L' : Addr → Prop) (io' : List Addr), Stw L io H L' io' H' → FR K L0 io0 H0 L' io' H' g e S → D.ct g H'
  | .rt d S => ∀ (v : V) (H' : Hp) (L' : Addr → Prop) (io' : List Addr), SR K L' io' H' S → Stp L0 io0 H0 L' io' H' → VR K L' io' H' v d → D.rt v H'
  | .ex c fs e S => ∀ (x : Option Addr) (g : St) (H' : Hp) (L' : Addr → Prop) (io' : List Addr), Stw L io H L' io' H' → FR K L0 io0 H0 L' io' H' g e S → ExR K L' io' H' x fs → W (.ref (He.ga K c)) x g H'
  | .no => False
def rds (K : Kw) (W : WX) (f : DS) : TS := fun D g H => ∃ (L0 : Addr → Prop) (io0 : List Addr) (H0 : Hp) (L : Addr → Prop) (io : List Addr) (e : Env) (S : Sto), FR K L0 io0 H0 L io H g e S ∧ outR K W L0 io0 H0 D L io H (f e S)
abbrev QS (X : Cx) (W : WX) (st : Stmt) (f : DS) : Prop := PS X st (rds X.kw W f)
abbrev QSs (X : Cx) (W : WX) (sts : List Stmt) (f : DS) : Prop := PSs X sts (rds X.kw W f)
theorem outR.later {K : Kw} {W : WX} {L0 L L1 : Addr → Prop} {io0 io io1 : List Addr} {H0 H H1 : Hp} {D : Ends} {o : Out} (h : outR K W L0 io0 H0 D L io H o) (s : Stw L io H L1 io1 H1) : outR K W L0 io0 H0 D L1 io1 H1 o := by
  cases o with
  | nx e S => exact fun g H' L' io' s2 fr => h g H' L' io' (s.trans s2) fr
  | bk e S => exact fun g H' L' io' s2 fr => h g H' L' io' (s.trans s2) fr
  | ct e S => exact fun g H' L' io' s2 fr => h g H' L' io' (s.trans s2) fr
  | rt d S => exact h
  | ex c fs e S => exact fun x g H' L' io' s2 fr => h x g H' L' io' (s.trans s2) fr
  | no => exact h
def sBind {α : Type} (f : Env → Sto → Res α) (k : Env → α → Sto → Out) : DS := fun e S => match f e S with
  | .ok a S' => k e a S'
  | .ex c fs S' => .ex c fs e S'
  | .no => .no
theorem rds_bind {α β : Type} {K : Kw} {W : WX} {R : (Addr → Prop) → List Addr → Hp → β → α → Prop} {f : Env → Sto → Res α} {k : Env → α → Sto → Out} {D : Ends} {g : St} {H : Hp} {P : β → Hp → Prop} (h : rds K W (sBind f k) D g H)
    (n : ∀ (L0 : Addr → Prop) (io0 : List Addr) (H0 : Hp) (L : Addr → Prop) (io : List Addr) (H1 : Hp) (e : Env) (S : Sto) (a : α) (v : β), FR K L0 io0 H0 L io H1 g e S → R L io H1 v a → outR K W L0 io0 H0 D L io H1 (k e a S) → P v H1) : Rdg K W R f g H P := by
  obtain ⟨L0, io0, H0, L, io, e, S, fr, h⟩ := h
  unfold sBind at h
  refine ⟨L0, io0, H0, L, io, e, S, fr, ?_⟩
  cases hf : f e S with
  | ok a S1 =>
    rw [hf] at h
    intro v H1 L1 io1 s1 sr1 r1
    exact n L0 io0 H0 L1 io1 H1 e S1 a v (fr.step s1 sr1) r1 (outR.later h (s1.stw fr.st.sub))
  | ex c fs S1 =>
    rw [hf] at h
    exact fun x H' L' io' s sr r => h x g H' L' io' (s.stw fr.st.sub) (fr.step s sr) r
  | no => rw [hf] at h; exact h
section
variable {X : Cx} {W : WX} {pos : Pos} {a b c : Expr} {f : DE} {t : DT} {f1 f2 : DS} {st : Stmt} {rest sa sb : List Stmt} {i : Nat} {x : Str}
def sNil : DS := fun e S => .nx e S
def sSeq (f1 f2 : DS) : DS := fun e S => match f1 e S with
  | .nx e' S' => f2 e' S'
  | o => o
theorem qss_nil : QSs X W [] sNil := pss_imp pss_nil fun D g H h => by
  obtain ⟨L0, io0, H0, L, io, e, S, fr, h⟩ := h
  exact h g H L io (Stw.refl ..) fr
theorem qss_cons (h1 : QS X W st f1) (h2 : QSs X W rest f2) : QSs X W (st :: rest) (sSeq f1 f2) := pss_imp (pss_cons h1 h2) fun D g H h => by
  obtain ⟨L0, io0, H0, L, io, e, S, fr, h⟩ := h
  unfold sSeq at h
  refine ⟨L0, io0, H0, L, io, e, S, fr, ?_⟩
  cases hf : f1 e S with
  | nx e' S' =>
    rw [hf] at h
    exact fun g' H' L' io' s fr' => ⟨L0, io0, H0, L', io', e', S', fr', outR.later h s⟩
  | _ => rw [hf] at h; exact h
theorem qss_one (h1 : QS X W st f1) : QSs X W [st] f1 := pss_one h1
def sRet (f : DE) : DS := sBind f fun _ d S => .rt d S
theorem qs_ret (h : QE X W a f) : QS X W (.Return (some a) pos) (sRet f) := ps_imp (ps_ret h) fun D g H h => by
  refine rds_bind (R := VR X.kw) (k := fun _ d S => .rt d S) h fun L0 io0 H0 L io H1 e S d v fr r q => ?_
  exact q v H1 L io fr.st fr.en r
def sRetN : DS := fun _ S => .rt .non S
theorem qs_retN : QS X W (.Return none pos) sRetN := ps_imp ps_retN fun D g H h => by
  obtain ⟨L0, io0, H0, L, io, e, S, fr, h⟩ := h
  exact h .non H L io fr.st fr.en .non
def sExpr (f : DE) : DS := sBind f fun e _ S => .nx e S
theorem qs_expr (h : QE X W a f) (hs : swapsWith a none pos.line X.env = pure false := by rfl) : QS X W (.Expr a pos) (sExpr f) := ps_imp (ps_expr h hs) fun D g H h => by
  refine rds_bind (R := VR X.kw) (k := fun e _ S => .nx e S) h fun L0 io0 H0 L io H1 e S d v fr r q => ?_
  exact q g H1 L io (Stw.refl ..) fr
def sIf (t : DT) (f1 f2 : DS) : DS := sBind t fun e b S => if b then f1 e S else f2 e S
theorem qs_if (hc : QT X W c t) (ha : QSs X W sa f1) (hb : QSs X W sb f2) : QS X W (.If c sa sb pos) (sIf t f1 f2) := ps_imp (ps_if hc ha hb) fun D g H h => by
  refine rds_bind (R := fun _ _ _ (v : Bool) d => v = d) (k := fun e b S => if b then f1 e S else f2 e S) h fun L0 io0 H0 L io H1 e S d v fr r q => ?_
  subst r
  cases v with
  | true => exact iteT ⟨L0, io0, H0, L, io, e, S, fr, q⟩
  | false => exact iteF ⟨L0, io0, H0, L, io, e, S, fr, q⟩
/-- x = e -/
def sAsg (i : Nat) (f : DE) : DS := sBind f fun e d S => .nx (e.set i (.va d)) S
theorem qs_asg (hN : X.N.Nodup) (i : Nat) {pos' : Pos} (h : QE X W a f) (hi : X.N[i]? = some x := by rfl) (hx : Loc X.env.scope x := by first | exact Or.inl rfl | exact Or.inr rfl) (hs : swapsWith a (some (.Name x pos')) pos.line X.env = pure false := by rfl) (hf : X.fn x = true ∨ X.env.scope.names.lookup x = some .local := by first | exact .inl rfl | exact .inr rfl) :
    QS X W (.Assign [.Name x pos'] a pos) (sAsg i f) := ps_imp (ps_set hN hi hx h hs hf) fun D g H h => by
  refine rds_bind (R := VR X.kw) (k := fun e d S => .nx (e.set i (.va d)) S) h fun L0 io0 H0 L io H1 e S d v fr r q => ?_
  exact q _ H1 L io (Stw.refl ..) (fr.setV i r)
/-- targets of any form -/
def sAsgG (gd : DG) (f : DE) : DS := sBind f fun e d S => match gd d e with
  | some e' => .nx e' S
  | none => .no
/-- x, y = e1, e2 -/
def sPar (i j : Nat) (fa : DA) : DS := sBind fa fun e l S => match l with
  | [d1, d2] => .nx ((e.set i (.va d1)).set j (.va d2)) S
  | _ => .no
theorem qs_par {y : Str} {px py pt : Pos} {kt k2 pt2} {fa : DA} (hc : X.calm = true) (hN : X.N.Nodup) (i j : Nat) (ha : QA X W [a, b] fa) (hi : X.N[i]? = some x := by rfl) (hj : X.N[j]? = some y := by rfl) (hij : i ≠ j := by decide)
    (hx : X.env.scope.names.lookup x = some .local := by rfl) (hy : X.env.scope.names.lookup y = some .local := by rfl)
    (hw : swappedStores [.Tuple [.Name x px, .Name y py] kt pt] (.Tuple [a, b] k2 pt2) X.env = pure (some [x, y]) := by rfl)
    (hs : swapsWithSole [.Tuple [.Name x px, .Name y py] kt pt] (.Tuple [a, b] k2 pt2) pos.line X.env = pure false := by rfl) :
    QS X W (.Assign [.Tuple [.Name x px, .Name y py] kt pt] (.Tuple [a, b] k2 pt2) pos) (sPar i j fa) := ps_imp (ps_par hc hN hi hj hij hx hy ha hw hs) fun D g H h => by
  refine rds_bind (R := VRs X.kw) (k := fun e l S => match l with
    | [d1, d2] => .nx ((e.set i (.va d1)).set j (.va d2)) S
    | _ => .no) h fun L0 io0 H0 L io H1 e S d v fr r q => ?_
  cases r with
  | nil => exact q.elim
  | cons r1 t1 =>
    cases t1 with
    | nil => exact q.elim
    | cons r2 t2 =>
      cases t2 with
      | cons => exact q.elim
      | nil => exact ⟨_, _, rfl, q _ H1 L io (Stw.refl ..) ((fr.setV i r1).setV j r2)⟩
def sPar3 (i j k : Nat) (fa : DA) : DS := sBind fa fun e l S => match l with
  | [d1, d2, d3] => .nx (((e.set i (.va d1)).set j (.va d2)).set k (.va d3)) S
  | _ => .no
/-- x = a new list: the slot's own -/
def sOwn (i : Nat) (f : DL) : DS := sBind f fun e l S => .nx (e.set i (.ow l)) S
/-- .. a handle -/
def sNew (i : Nat) (f : DL) : DS := sBind f fun e l S => .nx (e.set i (.va (.hdl S.length))) (S ++ [.lst l])
end
/-- a new list becomes a handle's -/
theorem SR.addO {K : Kw} {L : Addr → Prop} {io : List Addr} {H : Hp} {S : Sto} {p : Addr} {ob : Ob} (sr : SR K L io H S) (lp : L p) (np : p ∉ io) (h1 : ObR K L io H p ob) : SR K L (io ++ [p]) H (S ++ [ob]) := by
  have on : ∀ v d, VR K L io H v d → VR K L (io ++ [p]) H v d := fun v d r => VR.on (fun _ _ h => io_keep h) (fun a o e n => ⟨e, n⟩) r
  refine ⟨by rw [List.length_append, List.length_append, sr.len]; rfl, ?_, fun a h => ?_, sr.dom, fun k a o h3 h4 => ?_⟩
  · rw [List.nodup_append]
    exact ⟨sr.nd, by simp, fun a ha b hb => by simp at hb; subst hb; exact fun z => np (by rw [← z]; exact ha)⟩
  · rcases List.mem_append.mp h with z | z
    · exact sr.sub a z
    · simp at z; subst z; exact lp
  · by_cases hk : k < io.length
    · rw [List.getElem?_append_left hk] at h3
      rw [List.getElem?_append_left (by rw [← sr.len]; exact hk)] at h4
      exact (sr.obj k a o h3 h4).mono (fun _ e => e) on
    · have hk2 : io.length ≤ k := by omega
      rw [List.getElem?_append_right hk2] at h3
      rw [List.getElem?_append_right (by rw [← sr.len]; exact hk2), ← sr.len] at h4
      cases hd : k - io.length with
      | zero =>
        rw [hd] at h3 h4
        cases h3; cases h4
        exact h1.mono (fun _ e => e) on
      | succ n => rw [hd] at h3; simp at h3
theorem SR.addH {K : Kw} {L : Addr → Prop} {io : List Addr} {H : Hp} {S : Sto} {p : Addr} {xs : List V} {l : List Dv} (sr : SR K L io H S) (lp : L p) (np : p ∉ io) (h1 : H p = some (.lst xs)) (h2 : VRs K L io H xs l) : SR K L (io ++ [p]) H (S ++ [.lst l]) := sr.addO lp np ⟨xs, h1, h2⟩
section
variable {X : Cx} {W : WX} {pos : Pos} {a : Expr} {f : DL} {x : Str}
theorem FR.setH {K : Kw} {L0 L L1 : Addr → Prop} {io0 io io1 : List Addr} {H0 H H1 : Hp} {g : St} {e : Env} {S S1 : Sto} (fr : FR K L0 io0 H0 L io H g e S) (s : Stp L io H L1 io1 H1) (sr : SR K L1 io1 H1 S1) {v : V} {l : List Dv} (n : NewL K H L1 io1 H1 v l) :
    ∃ io2, Stp L io H L1 io2 H1 ∧ Stw L1 io1 H1 L1 io2 H1 ∧ SR K L1 io2 H1 (S1 ++ [.lst l]) ∧ VR K L1 io2 H1 v (.hdl S1.length) := by
  obtain ⟨p, xs, rfl, hp, lp, np, h1, h2⟩ := n
  have sr2 := sr.addH lp np h1 h2
  refine ⟨io1 ++ [p], ⟨?_, fun x hx => ?_, s.new, s.keep, s.up⟩, ⟨⟨[p], rfl⟩, fun _ h => .inl h, fun _ _ h _ => h⟩, sr2, .hdl (by rw [← sr.len]; simp)⟩
  · obtain ⟨m, rfl⟩ := s.pre
    exact ⟨m ++ [p], by simp⟩
  · rcases List.mem_append.mp hx with z | z
    · exact s.hn x z
    · simp at z; subst z; exact .inr hp
/-- a new list as a handle, as a value -/
def eNew (f : DL) : DE := fun e S => bnd (f e S) fun l S' => .ok (.hdl S'.length) (S' ++ [.lst l])
theorem qe_new (h : QF X W a f) : QE X W a (eNew f) := pe_imp h fun g H Q q => by
  obtain ⟨L0, io0, H0, L, io, e, S, fr, q⟩ := q
  refine ⟨L0, io0, H0, L, io, e, S, fr, ?_⟩
  have q : Fin X.kw W (VR X.kw) g L io H Q (bnd (f e S) fun l S' => .ok (.hdl S'.length) (S' ++ [.lst l])) := q
  cases hf : f e S with
  | no => rw [hf] at q; exact q
  | ex c fs S' => rw [hf] at q; exact q
  | ok l S' =>
    rw [hf] at q
    intro v H' L' io' s sr n
    obtain ⟨io2, s2, w2, sr2, r2⟩ := fr.setH s sr n
    exact q v H' L' io2 s2 sr2 r2
end
/-- what is a slot's own is own no more -/
def frzO : Ob → Dv
  | .lst l => .lst l
  | .dct l => .dic l
  | .ins c fs => .obj c fs
  | .ext _ _ _ => .non
  | .dcn _ => .non
def sFrz (i : Nat) : DS := fun e S => match e[i]? with
  | some (.own o) => .nx (e.set i (.va (frzO o))) S
  | _ => .no
theorem vrp_of {K : Kw} {L : Addr → Prop} {io : List Addr} {H : Hp} : ∀ {kvs : List (Key × V)} {l : List (Key × Dv)}, PairR (VR K L io H) kvs l → VRp K L io H kvs l
  | _, _, .nil => .nil
  | (k, v) :: _, (k', d) :: _, .cons ⟨h1, h2⟩ t => by
    cases (show k = k' from h1)
    exact .cons h2 (vrp_of t)
theorem vrf_of {K : Kw} {L : Addr → Prop} {io : List Addr} {H : Hp} : ∀ {kvs : List (Str × V)} {l : List (Str × Dv)}, PairR (VR K L io H) kvs l → VRf K L io H kvs l
  | _, _, .nil => .nil
  | (k, v) :: _, (k', d) :: _, .cons ⟨h1, h2⟩ t => by
    cases (show k = k' from h1)
    exact .cons h2 (vrf_of t)
theorem of_vrf {K : Kw} {L : Addr → Prop} {io : List Addr} {H : Hp} : ∀ {kvs : List (Str × V)} {l : List (Str × Dv)}, VRf K L io H kvs l → PairR (VR K L io H) kvs l
  | _, _, .nil => .nil
  | _, _, .cons h t => .cons ⟨rfl, h⟩ (of_vrf t)
theorem ObR.frz {K : Kw} {L : Addr → Prop} {io : List Addr} {H : Hp} {p : Addr} {o : Ob} (h : ObR K L io H p o) (n : ¬ L p) (np : p ∉ io) : VR K L io H (.ref p) (frzO o) := by
  cases o with
  | lst l => obtain ⟨xs, h1, h2⟩ := h; exact .lst n h1 h2
  | dct l => obtain ⟨xs, h1, h2⟩ := h; exact .dic n (.inl h1) (vrp_of h2)
  | ins c fs => obtain ⟨dx, xs, h1, h2⟩ := h; exact .obj n h1 (vrf_of h2)
  | ext => exact absurd h.1 np
  | dcn => exact absurd h.1 np
theorem FR.frz {K : Kw} {L0 L : Addr → Prop} {io0 io : List Addr} {H0 H : Hp} {g : St} {e : Env} {S : Sto} (fr : FR K L0 io0 H0 L io H g e S) {i : Nat} {o : Ob} (h : e[i]? = some (.own o)) :
    ∃ p, g[i]? = some (some (.ref p)) ∧ FR K L0 io0 H0 (Lz L p) io H g (e.set i (.va (frzO o))) S ∧ Stw L io H (Lz L p) io H := by
  obtain ⟨p, h1, h2, h3, h4, h5⟩ := fr.own i o h
  have hl : ∀ a, Lz L p a → L a := fun a z => z.1
  have on : ∀ v d, VR K L io H v d → VR K (Lz L p) io H v d := fun v d r => r.less hl
  have hi : i < e.length := (List.getElem?_eq_some_iff.mp h).1
  have ne : ∀ j q, j ≠ i → (∀ d, e[j]? ≠ some (.va d)) → e[j]? ≠ some .no → g[j]? = some (some (.ref q)) → q ≠ p := fun j q hj v1 v2 hg z => by
    subst z
    exact fr.inj i j q (fun z => hj z.symm) (by rw [h]; intro d z; cases z) v1 (by rw [h]; intro z; cases z) v2 h1 hg
  refine ⟨p, h1, ⟨fr.st.less hl fun a ha => ⟨fr.st.sub a ha, fun z => h3 (by rw [← z]; exact ha)⟩, by rw [List.length_set]; exact fr.len, fun j d hj => ?_, fun j m hj => ?_, fun j k q hjk v1 v2 n1 n2 g1 g2 => ?_, ⟨fr.en.pre, fr.en.hn, fun a z => fr.en.new a z.1, fr.en.keep, fun a z => ⟨fr.en.up a z, fun e => ?_⟩⟩, fr.sub0, fr.dom0⟩, ⟨⟨[], by simp⟩, fun a z => .inl z.1, fun _ _ e _ => e⟩⟩
  · rcases set_get hj with ⟨rfl, e1, e2⟩ | ⟨e1, e2⟩
    · cases e1
      exact ⟨.ref p, h1, (ObR.mono (o := o) h5 (fun _ h => h) on).frz (fun z => z.2 rfl) h3⟩
    · obtain ⟨v, r1, r2⟩ := fr.va j d e2
      exact ⟨v, r1, on _ _ r2⟩
  · rcases set_get hj with ⟨rfl, e1, e2⟩ | ⟨e1, e2⟩
    · cases e1
    · obtain ⟨q, r1, r2, r3, r4, r5⟩ := fr.own j m e2
      exact ⟨q, r1, ⟨r2, ne j q e1 (by rw [e2]; intro d z; cases z) (by rw [e2]; intro z; cases z) r1⟩, r3, r4, ObR.mono (o := m) r5 (fun _ h => h) on⟩
  · have hj : j ≠ i := fun z => by subst z; exact v1 _ (set_at hi)
    have hk : k ≠ i := fun z => by subst z; exact v2 _ (set_at hi)
    rw [set_ne hj] at v1 n1
    rw [set_ne hk] at v2 n2
    exact fr.inj j k q hjk v1 v2 n1 n2 g1 g2
  · rw [← e] at h4
    exact fr.dom0 a z h4
end DL
namespace DL
open PySem L2
def forR (gd : DG) (body : DS) : List Dv → Env → Sto → Out
  | [], e, S => .nx e S
  | d :: ds, e, S => match gd d e with
    | none => .no
    | some e' => match body e' S with
      | .nx e1 S1 => forR gd body ds e1 S1
      | .ct e1 S1 => forR gd body ds e1 S1
      | .bk e1 S1 => .nx e1 S1
      | o => o
def sFor (fi : DL) (gd : DG) (body : DS) : DS := sBind fi fun e ds S => forR gd body ds e S
theorem rds_bindI {K : Kw} {W : WX} {f : DL} {k : Env → List Dv → Sto → Out} {D : Ends} {g : St} {H : Hp} {P : It → Hp → Prop} (h : rds K W (sBind f k) D g H)
    (n : ∀ (L0 : Addr → Prop) (io0 : List Addr) (H0 : Hp) (L : Addr → Prop) (io : List Addr) (H1 : Hp) (e : Env) (S : Sto) (a : List Dv) (J : It), FR K L0 io0 H0 L io H1 g e S → WalkR K L io H1 J a → outR K W L0 io0 H0 D L io H1 (k e a S) → P J H1) : rdi K W f g H P := by
  obtain ⟨L0, io0, H0, L, io, e, S, fr, h⟩ := h
  unfold sBind at h
  refine ⟨L0, io0, H0, L, io, e, S, fr, ?_⟩
  cases hf : f e S with
  | ok a S1 =>
    rw [hf] at h
    intro v H1 L1 io1 s1 sr1 r1
    exact n L0 io0 H0 L1 io1 H1 e S1 a v (fr.step s1 sr1) r1 (outR.later h (s1.stw fr.st.sub))
  | ex c fs S1 =>
    rw [hf] at h
    exact fun x H' L' io' s sr r => h x g H' L' io' (s.stw fr.st.sub) (fr.step s sr) r
  | no => rw [hf] at h; exact h
theorem rd_for {K : Kw} {W : WX} {fi : DL} {gd : DG} {body : DS} {vs : List Nat} {D : Ends} {g : St} {H : Hp} (h : rds K W (sFor fi gd body) D g H) : tFor (rdi K W fi) (tgR K gd vs) (rds K W body) D g H := by
  refine rds_bindI (k := fun e ds S => forR gd body ds e S) h fun L0 io0 H0 L1 io1 H1 e S ds J fr wk q => ?_
  refine ⟨fun i m g' H' => m = ds.length - i ∧ i ≤ ds.length ∧ ∃ (L' : Addr → Prop) (io' : List Addr) (e' : Env) (S' : Sto), FR K L0 io0 H0 L' io' H' g' e' S' ∧ Stw L1 io1 H1 L' io' H' ∧ outR K W L0 io0 H0 D L' io' H' (forR gd body (ds.drop i) e' S'),
    ⟨ds.length, by simp, Nat.zero_le _, L1, io1, e, S, fr, Stw.refl .., by rw [List.drop_zero]; exact q⟩, ?_⟩
  rintro i m g' H' ⟨rfl, hi, L', io', e', S', fr', sw, q⟩
  by_cases hlt : i < ds.length
  · obtain ⟨d, hd⟩ : ∃ d, ds[i]? = some d := ⟨_, List.getElem?_eq_getElem hlt⟩
    have hdrop : ds.drop i = d :: ds.drop (i + 1) := by
      rw [List.drop_eq_getElem_cons hlt]
      rw [List.getElem?_eq_getElem hlt] at hd
      cases hd
      rfl
    rw [hdrop] at q
    simp only [forR] at q
    obtain ⟨hgo, hy⟩ := wk.go L' io' H' S' i d sw fr'.st hd
    refine .inr ⟨hgo, fun g'' H'' => ∃ m', m' < ds.length - i ∧ (m' = ds.length - (i + 1) ∧ i + 1 ≤ ds.length ∧ ∃ (L' : Addr → Prop) (io' : List Addr) (e' : Env) (S' : Sto), FR K L0 io0 H0 L' io' H'' g'' e' S' ∧ Stw L1 io1 H1 L' io' H'' ∧ outR K W L0 io0 H0 D L' io' H'' (forR gd body (ds.drop (i + 1)) e' S')), fun _ _ h => h, fun x H2 y => ?_⟩
    obtain ⟨sr2, sp2, r2⟩ := hy x H2 y
    have fr2 := fr'.step sp2 sr2
    have sw2 := sw.trans (sp2.stw fr'.st.sub)
    cases hg : gd d e' with
    | none => rw [hg] at q; exact q.elim
    | some e2 =>
      rw [hg] at q
      simp only at q
      refine ⟨L0, io0, H0, L', io', e', S', d, e2, fr2, r2, hg, fun g3 fr3 _ _ => ⟨L0, io0, H0, L', io', e2, S', fr3, ?_⟩⟩
      cases hb : body e2 S' with
      | nx e1 S1 =>
        rw [hb] at q
        exact fun g4 H4 L4 io4 s4 fr4 => ⟨_, by omega, rfl, hlt, L4, io4, e1, S1, fr4, sw2.trans s4, outR.later q ((sp2.stw fr'.st.sub).trans s4)⟩
      | ct e1 S1 =>
        rw [hb] at q
        exact fun g4 H4 L4 io4 s4 fr4 => ⟨_, by omega, rfl, hlt, L4, io4, e1, S1, fr4, sw2.trans s4, outR.later q ((sp2.stw fr'.st.sub).trans s4)⟩
      | bk e1 S1 =>
        rw [hb] at q
        exact fun g4 H4 L4 io4 s4 fr4 => q g4 H4 L4 io4 ((sp2.stw fr'.st.sub).trans s4) fr4
      | rt d1 S1 => rw [hb] at q; exact q
      | ex c fs e1 S1 =>
        rw [hb] at q
        exact fun x g4 H4 L4 io4 s4 fr4 r4 => q x g4 H4 L4 io4 ((sp2.stw fr'.st.sub).trans s4) fr4 r4
      | no => rw [hb] at q; exact q
  · have ei : i = ds.length := by omega
    subst ei
    rw [List.drop_length] at q
    exact .inl ⟨wk.stop L' io' H' sw, q g' H' L' io' (Stw.refl ..) fr'⟩
section
variable {X : Cx} {W : WX} {pos : Pos} {tg iter : Expr} {body : List Stmt} {fi : DL} {gd : DG} {fb : DS} {vs : List Nat}
theorem qs_for (hp : PassesOwn (model X.prog X.w) X.A X.env X.xe) (hc : X.calm = true) (hi : QI X W tg iter fi) (hg : QG X tg gd vs) (hb : QSs X W body fb) (hs : ∀ x, foldedSetIterable iter X.env x = pure x := by intro _; rfl) : QS X W (.For tg iter body [] pos) (sFor fi gd fb) :=
  ps_imp (ps_for hp hc hi hg.canon hb hs) fun D g H h => rd_for h
/-- a slot's own list is changed -/
theorem FR.ownO {K : Kw} {L0 L : Addr → Prop} {io0 io : List Addr} {H0 H : Hp} {g : St} {e : Env} {S : Sto} (fr : FR K L0 io0 H0 L io H g e S) {i : Nat} {o o' : Ob} {p : Addr} {u : HO} (h : e[i]? = some (.own o)) (hg : g[i]? = some (some (.ref p))) (lp : L p) (np : p ∉ io) (h0 : H0 p = none) (r : ObR K L io (upd H p u) p o') :
    FR K L0 io0 H0 L io (upd H p u) g (e.set i (.own o')) S := by
  have hi : i < e.length := (List.getElem?_eq_some_iff.mp h).1
  have eg : g.set i (some (.ref p)) = g := by
    apply List.ext_getElem?
    intro k
    rw [List.getElem?_set]
    by_cases hk : i = k
    · subst hk
      rw [if_pos rfl, if_pos (by rw [fr.len]; exact hi), hg]
    · rw [if_neg hk]
  have f1 := (fr.setN i (some (.ref p))).mutD (o := u) lp np h0 fun j q v1 v2 v3 hj => by
    have hji : j ≠ i := fun z => by subst z; exact v2 (set_at hi)
    rw [set_ne hji] at v1 v2 v3 hj
    intro z
    subst z
    exact fr.inj i j q (fun z => hji z.symm) (by rw [h]; intro d z; cases z) v1 (by rw [h]; intro z; cases z) v2 hg hj
  have f2 := f1.setS i (x := some (.ref p)) (s := .own o') (fun d z => by cases z) (fun l2 z => by cases z; exact ⟨p, rfl, lp, np, h0, r⟩) fun q _ _ hq j hj v1 v2 hgj => by
    cases hq
    rw [set_ne hj] at v1 v2 hgj
    exact fr.inj i j p (fun z => hj z.symm) (by rw [h]; intro d z; cases z) v1 (by rw [h]; intro z; cases z) v2 hg hgj
  rw [List.set_set, List.set_set, eg] at f2
  exact f2
theorem FR.ownL {K : Kw} {L0 L : Addr → Prop} {io0 io : List Addr} {H0 H : Hp} {g : St} {e : Env} {S : Sto} (fr : FR K L0 io0 H0 L io H g e S) {i : Nat} {l l' : List Dv} {p : Addr} {ys : List V} (h : e[i]? = some (.ow l)) (hg : g[i]? = some (some (.ref p))) (lp : L p) (np : p ∉ io) (h0 : H0 p = none) (r : VRs K L io H ys l') :
    FR K L0 io0 H0 L io (upd H p (.lst ys)) g (e.set i (.ow l')) S := fr.ownO h hg lp np h0 ⟨ys, upd_same, r.mut lp⟩
end
/-- a list's method by data: the list, the arguments; the list behind it, the answer -/
def OwnS (K : Kw) (r : V → List V → Hp → VK → Prop) (h : List Dv → List Dv → Option (List Dv × Dv)) : Prop :=
  ∀ (L : Addr → Prop) (io : List Addr) (H : Hp) (S : Sto) (p : Addr) (xs : List V) (l : List Dv) (vs : List V) (as l' : List Dv) (d : Dv) (Q : VK), SR K L io H S → H p = some (.lst xs) → L p → VRs K L io H xs l → VRs K L io H vs as → h l as = some (l', d) →
    (∀ ys v, VRs K L io H ys l' → VR K L io H v d → Q v (upd H p (.lst ys))) → r (.ref p) vs H Q
def sOwnM (h : List Dv → List Dv → Option (List Dv × Dv)) (i : Nat) (fa : DA) : DS := fun e S => match e[i]? with
  | some (.own (.lst l)) => sBind fa (fun e as S => match h l as with
    | some (l', _) => .nx (e.set i (.ow l')) S
    | none => .no) e S
  | _ => .no
theorem rd_ownM {K : Kw} {W : WX} {r : V → List V → Hp → VK → Prop} {h : List Dv → List Dv → Option (List Dv × Dv)} (hs : OwnS K r h) {fa : DA} {i : Nat} {D : Ends} {g : St} {H : Hp} (q : rds K W (sOwnM h i fa) D g H) : tDrop (tBM K "list" r (tVar i) (rda K W fa)) D g H := by
  obtain ⟨L0, io0, H0, L, io, e, S, fr, q⟩ := q
  unfold sOwnM at q
  cases hi : e[i]? with
  | none => rw [hi] at q; exact q.elim
  | some sl =>
    by_cases hl : ∃ l, sl = .ow l
    · obtain ⟨l, rfl⟩ := hl
      rw [hi] at q
      simp only at q
      obtain ⟨p, xs, h1, h2, h3, h4, h5, h6⟩ := fr.ow i l hi
      refine ⟨.ref p, h1, .inl ⟨rfl, xs, SqL.of h5⟩, ?_⟩
      refine ⟨L0, io0, H0, L, io, e, S, fr, ?_⟩
      simp only [sBind] at q
      cases hf : fa e S with
      | no => rw [hf] at q; exact q
      | ex c fs S1 => rw [hf] at q; exact fun x H' L' io' s sr r => q x g H' L' io' (s.stw fr.st.sub) (fr.step s sr) r
      | ok as S1 =>
        rw [hf] at q
        intro vs H1 L1 io1 s1 sr1 r1
        simp only at q
        cases hh : h l as with
        | none => rw [hh] at q; exact q.elim
        | some z =>
          obtain ⟨l', d⟩ := z
          rw [hh] at q
          have fr1 := fr.step s1 sr1
          have np : p ∉ io1 := fun z => by
            rcases s1.hn p z with q | q
            · exact h3 q
            · rw [q] at h5; cases h5
          refine hs L1 io1 H1 S1 p xs l vs as l' d _ sr1 (s1.keep p _ h5 h3) (s1.up p h2) (h6.step s1 fr.st.sub) r1 hh fun ys v ry rv => ?_
          exact q g _ L1 io1 ((s1.stw fr.st.sub).trans (Stw.mut (s1.up p h2))) (fr1.ownL hi h1 (s1.up p h2) np h4 ry)
    · rw [hi] at q
      rcases sl with _ | _ | (l | _ | _ | _ | _)
      · exact q.elim
      · exact q.elim
      · exact absurd ⟨l, rfl⟩ hl
      · exact q.elim
      · exact q.elim
      · exact q.elim
      · exact q.elim
theorem SR.setH {K : Kw} {L : Addr → Prop} {io : List Addr} {H : Hp} {S : Sto} {k : Nat} {a : Addr} {ob : Ob} {o : HO} (sr : SR K L io H S) (hk : io[k]? = some a) (r : ObR K L io (upd H a o) a ob) : SR K L io (upd H a o) (S.set k ob) := by
  have la : L a := sr.sub a (List.mem_of_getElem? hk)
  refine ⟨by rw [List.length_set]; exact sr.len, sr.nd, sr.sub, fun b hb => ?_, fun j b u h1 h2 => ?_⟩
  · by_cases e : b = a
    · rw [e, upd_same]; exact fun z => nomatch z
    · rw [upd_ne e]; exact sr.dom b hb
  · rcases set_get h2 with ⟨rfl, rfl, _⟩ | ⟨e1, e2⟩
    · rw [hk] at h1; cases h1; exact r
    · refine (sr.obj j b u h1 e2).mono (fun z ez => ?_) fun v d rv => rv.mut la
      rw [upd_ne (fun z => e1 ?_)]
      · exact ez
      · rw [← z] at hk
        obtain ⟨q1, q2⟩ := List.getElem?_eq_some_iff.mp h1
        obtain ⟨q3, q4⟩ := List.getElem?_eq_some_iff.mp hk
        exact (List.getElem_inj sr.nd).mp (q2.trans q4.symm)
theorem Stp.mutH {L : Addr → Prop} {io : List Addr} {H : Hp} {a : Addr} {o : HO} (h : a ∈ io) : Stp L io H L io (upd H a o) :=
  ⟨⟨[], by simp⟩, fun _ h => .inl h, fun _ h => .inl h, fun b u e n => by rw [upd_ne (fun z => n (by rw [z]; exact h))]; exact e, fun _ h => h⟩
def hdlM (h : List Dv → List Dv → Option (List Dv × Dv)) (S : Sto) (o : Dv) (as : List Dv) : Res Dv := match o with
  | .hdl k => match S[k]? with
    | some (.lst l) => match h l as with
      | some (l', d) => .ok d (S.set k (.lst l'))
      | none => .no
    | _ => .no
  | _ => .no
def lstHd (S : Sto) : Dv → Bool
  | .hdl k => match S[k]? with
    | some (.lst _) => true
    | _ => false
  | _ => false
def eHdlM (h : List Dv → List Dv → Option (List Dv × Dv)) (fo : DE) (fa : DA) : DE := fun e S => bnd (fo e S) fun o S1 => if lstHd S1 o then bnd (fa e S1) fun as S2 => hdlM h S2 o as else .no
theorem rd_hdlM {K : Kw} {W : WX} {r : V → List V → Hp → VK → Prop} {h : List Dv → List Dv → Option (List Dv × Dv)} (hs : OwnS K r h) {fo : DE} {fa : DA} {g : St} {H : Hp} {Q : VK} (q : rd K W (eHdlM h fo fa) g H Q) : tBM K "list" r (rd K W fo) (rda K W fa) g H Q := by
  refine Rdg.bind (R := VR K) (k := fun e o S1 => if lstHd S1 o then bnd (fa e S1) fun as S2 => hdlM h S2 o as else .no) q fun L0 io0 H0 L io H1 e S o v fr ro q => ?_
  cases hl : lstHd S o with
  | false => rw [hl] at q; exact q.elim
  | true =>
    rw [hl] at q
    cases o with
    | hdl k =>
      cases ro with
      | hdl hk =>
        rename_i a
        simp only [lstHd] at hl
        cases hS : S[k]? with
        | none => rw [hS] at hl; cases hl
        | some ob =>
          rw [hS] at hl
          cases ob with
          | lst l =>
            obtain ⟨xs, e1, _⟩ := fr.st.obj k a _ hk hS
            refine ⟨.inl ⟨rfl, xs, SqL.of e1⟩, ?_⟩
            refine Fin.bind (R := VRs K) (k := fun as S2 => hdlM h S2 (.hdl k) as) fr q fun L2 io2 H2 S2 as vs s2 fr2 r2 q => ?_
            simp only [hdlM] at q
            have hk2 : io2[k]? = some a := by
              obtain ⟨m, rfl⟩ := s2.pre
              exact io_keep hk
            cases hS2 : S2[k]? with
            | none => rw [hS2] at q; exact q.elim
            | some ob2 =>
              rw [hS2] at q
              cases ob2 with
              | lst l2 =>
                simp only at q
                cases hh : h l2 as with
                | none => rw [hh] at q; exact q.elim
                | some z =>
                  obtain ⟨l', d⟩ := z
                  rw [hh] at q
                  obtain ⟨ys, e2, r3⟩ := fr2.st.obj k a _ hk2 hS2
                  have ma : a ∈ io2 := List.mem_of_getElem? hk2
                  have la : L2 a := fr2.st.sub a ma
                  refine hs L2 io2 H2 S2 a ys l2 vs as l' d Q fr2.st e2 la r3 r2 hh fun zs w rz rw' => ?_
                  exact q w _ L2 io2 (Stp.mutH ma) (fr2.st.setH hk2 ⟨zs, upd_same, rz.mut la⟩) (rw'.mut la)
              | _ => exact q.elim
          | _ => cases hl
    | _ => simp [lstHd] at hl
/-- append, extend, insert, reverse -/
def appD (l as : List Dv) : Option (List Dv × Dv) := match as with
  | [d] => if l.length < sizeLine then some (l ++ [d], .non) else none
  | _ => none
theorem owns_app {K : Kw} : OwnS K rAppend appD := by
  intro L io H S p xs l vs as l' d Q sr hp lp rx ra hh q
  cases ra with
  | nil => cases hh
  | cons r t =>
    cases t with
    | cons => cases hh
    | nil =>
      simp only [appD] at hh
      split at hh
      · rename_i hl
        cases hh
        exact ⟨p, xs, _, rfl, rfl, hp, by rw [rx.len]; exact hl, q _ _ (rx.app (.cons r .nil)) .non⟩
      · cases hh
section
variable {X : Cx} {W : WX} {pos apos cpos p1 : Pos} {a o e : Expr} {es : List Expr} {f fo fv : DE} {fa : DA} {x name : Str} {id : String} {r : V → List V → Hp → VK → Prop} {h : List Dv → List Dv → Option (List Dv × Dv)}
/-- found.m(..), found the slot's own -/
theorem qs_ownM (i : Nat) (slot : Slot "list" name id) (hty : typeOf (.builtin id) = pure (.type "method_descriptor")) (hm : MtR X id r) (hs : OwnS X.kw r h) (ha : QA X W (e :: es) fa)
    (hN : X.N[i]? = some x := by rfl) (hv : Vis X.env.scope x := by first | exact Or.inl rfl | exact Or.inr (Or.inl rfl) | exact Or.inr (Or.inr rfl))
    (hd : (x == ("__debug__" : Str)) = false := by decide) (hcd : (x == ("__classdict__" : Str)) = false := by decide)
    (hbase : attributeBase (.Name x p1) name X.env (eval (.Name x p1) X.env) = eval (.Name x p1) X.env := by rfl)
    (hfew : ((backTo cpos (starEach (e :: es) X.env)).all (fun x => !x.1) && (backToKw cpos (keywordEach [] X.env)).all (fun x => x.1.isSome)
      && decide ((e :: es).length + ([] : List Keyword).length + (if ([] : List Keyword).isEmpty then 0 else 1) < 30)) = true := by rfl)
    (hline : (apos.endLine == cpos.line) = true := by rfl) (hst : starEach (e :: es) X.env = (false, eval e X.env) :: starEach es X.env := by rfl) (hplain : (backTo cpos (starEach es X.env)).any (·.1) = false := by rfl)
    (hsw : swapsWith (.Call (.Attribute (.Name x p1) name apos) (e :: es) [] cpos) none pos.line X.env = pure false := by rfl) :
    QS X W (.Expr (.Call (.Attribute (.Name x p1) name apos) (e :: es) [] cpos) pos) (sOwnM h i fa) := ps_imp (ps_expr (pe_bm PySem.F.plainAttrs_list slot hty hm (pe_var hN hv hd hcd) ha hbase hfew hline hst hplain) hsw) fun D g H q => rd_ownM hs q
theorem qe_hdlM (slot : Slot "list" name id) (hty : typeOf (.builtin id) = pure (.type "method_descriptor")) (hm : MtR X id r) (hs : OwnS X.kw r h) (ho : QE X W o fo) (ha : QA X W (e :: es) fa)
    (hbase : attributeBase o name X.env (eval o X.env) = eval o X.env := by rfl)
    (hfew : ((backTo cpos (starEach (e :: es) X.env)).all (fun x => !x.1) && (backToKw cpos (keywordEach [] X.env)).all (fun x => x.1.isSome)
      && decide ((e :: es).length + ([] : List Keyword).length + (if ([] : List Keyword).isEmpty then 0 else 1) < 30)) = true := by rfl)
    (hline : (apos.endLine == cpos.line) = true := by rfl) (hst : starEach (e :: es) X.env = (false, eval e X.env) :: starEach es X.env := by rfl) (hplain : (backTo cpos (starEach es X.env)).any (·.1) = false := by rfl) :
    QE X W (.Call (.Attribute o name apos) (e :: es) [] cpos) (eHdlM h fo fa) := pe_imp (pe_bm PySem.F.plainAttrs_list slot hty hm ho ha hbase hfew hline hst hplain) fun g H Q q => rd_hdlM hs q
end
end DL
namespace DL
open PySem L2
theorem outR.bind {α β : Type} {K : Kw} {W : WX} {R : (Addr → Prop) → List Addr → Hp → β → α → Prop} {f : Env → Sto → Res α} {k : Env → α → Sto → Out} {D : Ends} {g : St} {L0 L : Addr → Prop} {io0 io : List Addr} {H0 H : Hp} {e : Env} {S : Sto} {P : β → Hp → Prop}
    (fr : FR K L0 io0 H0 L io H g e S) (h : outR K W L0 io0 H0 D L io H (sBind f k e S))
    (n : ∀ (L1 : Addr → Prop) (io1 : List Addr) (H1 : Hp) (S1 : Sto) (a : α) (v : β), Stp L io H L1 io1 H1 → FR K L0 io0 H0 L1 io1 H1 g e S1 → R L1 io1 H1 v a → outR K W L0 io0 H0 D L1 io1 H1 (k e a S1) → P v H1) : Rdg K W R f g H P := by
  unfold sBind at h
  refine ⟨L0, io0, H0, L, io, e, S, fr, ?_⟩
  cases hf : f e S with
  | ok a S1 =>
    rw [hf] at h
    intro v H1 L1 io1 s1 sr1 r1
    exact n L1 io1 H1 S1 a v s1 (fr.step s1 sr1) r1 (outR.later h (s1.stw fr.st.sub))
  | ex c fs S1 =>
    rw [hf] at h
    exact fun x H' L' io' s sr r => h x g H' L' io' (s.stw fr.st.sub) (fr.step s sr) r
  | no => rw [hf] at h; exact h
def setD (S : Sto) (o i v : Dv) : Option Sto := match o, i with
  | .hdl k, .int n => match S[k]? with
    | some (.lst l) => match ixN l.length n with
      | some j => some (S.set k (.lst (l.set j v)))
      | none => none
    | _ => none
  | _, _ => none
theorem setD_ok {K : Kw} {L : Addr → Prop} {io : List Addr} {H : Hp} {S S' : Sto} {o i v : Dv} {vo vi vv : V} (sr : SR K L io H S) (ro : VR K L io H vo o) (ri : VR K L io H vi i) (rv : VR K L io H vv v) (h : setD S o i v = some S') {Q : Hp → Prop}
    (q : ∀ H', Stp L io H L io H' → SR K L io H' S' → Q H') : rSetL vo vi vv H Q := by
  cases o with
  | hdl k =>
    cases i with
    | int n =>
      simp only [setD] at h
      cases hS : S[k]? with
      | none => rw [hS] at h; cases h
      | some ob =>
        rw [hS] at h
        cases ob with
        | lst l =>
          simp only at h
          cases hj : ixN l.length n with
          | none => rw [hj] at h; cases h
          | some j =>
            rw [hj] at h
            cases h
            cases ri
            cases ro with
            | hdl hk =>
              rename_i a
              obtain ⟨xs, e1, r1⟩ := sr.obj k a _ hk hS
              have ma : a ∈ io := List.mem_of_getElem? hk
              refine ⟨a, xs, n, j, rfl, rfl, e1, by rw [r1.len]; exact hj, ?_⟩
              exact q _ (Stp.mutH ma) (sr.setH hk ⟨_, upd_same, (VRs.set rv j r1).mut (sr.sub a ma)⟩)
        | _ => cases h
    | _ => cases h
  | _ => cases h
def sSetI (fo fi fv : DE) : DS := sBind fv fun e v S1 => sBind fo (fun e o S2 => sBind fi (fun e i S3 => match setD S3 o i v with
  | some S4 => .nx e S4
  | none => .no) e S2) e S1
section
variable {X : Cx} {W : WX} {pos tpos : Pos} {a o i : Expr} {fo fi fv : DE}
theorem qs_setI (ho : QE X W o fo) (hi : QE X W i fi) (hv : QE X W a fv)
    (hp : ∀ {to ti tv}, PE X o to → PE X i ti → PE X a tv → PS X (.Assign [.Subscript o i tpos] a pos) (tAsg tv (gSub to ti rSetL)) := by intro _ _ _ h1 h2 h3; exact ps_asg h3 (pg_sub h1 h2 set_list)) : QS X W (.Assign [.Subscript o i tpos] a pos) (sSetI fo fi fv) := ps_imp (hp ho hi hv) fun D g H h => by
  refine rds_bind (R := VR X.kw) (k := fun e v S1 => sBind fo (fun e o S2 => sBind fi (fun e i S3 => match setD S3 o i v with
    | some S4 => .nx e S4
    | none => .no) e S2) e S1) h fun L0 io0 H0 L io H1 e S d v fr rv q => ?_
  refine outR.bind (R := VR X.kw) (k := fun e o S2 => sBind fi (fun e i S3 => match setD S3 o i d with
    | some S4 => .nx e S4
    | none => .no) e S2) fr q fun L2 io2 H2 S2 od vo s2 fr2 ro q => ?_
  refine outR.bind (R := VR X.kw) (k := fun e i S3 => match setD S3 od i d with
    | some S4 => .nx e S4
    | none => .no) fr2 q fun L3 io3 H3 S3 id vi s3 fr3 ri q => ?_
  cases hS : setD S3 od id d with
  | none => rw [hS] at q; exact q.elim
  | some S4 =>
    rw [hS] at q
    exact setD_ok fr3.st (ro.step s3 fr2.st.sub) ri ((rv.step s2 fr.st.sub).step s3 fr2.st.sub) hS fun H' s sr => q g H' L3 io3 (s.stw fr3.st.sub) (fr3.step s sr)
theorem get_list : PGet X (rIxL X.kw) := by
  intro pins s g H x y v u Q I rx ry h
  obtain ⟨p, xs, i, z, rfl, rfl, hq, he, q⟩ := h
  cases rx
  obtain ⟨t, rfl⟩ := ry
  obtain ⟨its, r, pl, hz⟩ := I.list hq
  obtain ⟨j, h1, h2, h3, h4, h5⟩ := atI_get he
  obtain ⟨w, ew, rw'⟩ := r.get h2
  have hl := r.length
  have hn := line63
  have fin : EP X pins g Q w s := ⟨z, H, I, rw', q⟩
  by_cases h0 : 0 ≤ i
  · have hj : i.toNat = j := by
      rw [seqIndex_of h0 h5] at h1
      exact Option.some.inj h1
    exact wpAny_getItem_list pl.isList h0 (by omega) (by rw [hj]; simpa using ew) fin
  · have hj : (i + (its.toArray.size : Int)).toNat = j := by
      rw [seqIndex_neg (by omega) h4] at h1
      rw [List.size_toArray, ← hl]
      exact Option.some.inj h1
    exact wpAny_getItem_list_neg pl.isList (by omega) (by rw [List.size_toArray] <;> omega) (by omega) (by rw [hj]; simpa using ew) fin
def ixL (S : Sto) (d i : Dv) : Option Dv := match i with
  | .int i => (asL S d).bind fun l => atI l i
  | _ => none
def addI : Dv → Dv → Option Dv := iop fun i j => some (.int (i + j))
def subI : Dv → Dv → Option Dv := iop fun i j => some (.int (i - j))
def sAugI (op : Dv → Dv → Option Dv) (fo fi fv : DE) : DS := sBind fo fun e o S1 => sBind fi (fun e i S2 => match ixL S2 o i with
  | some x => sBind fv (fun e y S3 => match op x y with
    | some z => (match setD S3 o i z with
      | some S4 => .nx e S4
      | none => .no)
    | none => .no) e S2
  | none => .no) e S1
def IpS (K : Kw) (t : TIp) (op : Dv → Dv → Option Dv) : Prop := ∀ L io H x y a b d (Q : VK), VR K L io H x a → VR K L io H y b → op a b = some d → (∀ v, VR K L io H v d → Q v H) → t x y H Q
theorem ips_add {K : Kw} : IpS K (ipI fun i j => i + j) addI := by
  intro L io H x y a b d Q ra rb e q
  cases ra with
  | int i =>
    cases rb with
    | int j => cases e; exact ⟨i, j, rfl, rfl, q _ (.int _)⟩
    | _ => cases e
  | _ => cases e
theorem qs_augI {op : Operator} {tip : TIp} {od : Dv → Dv → Option Dv} (hop : PIp X op tip) (hod : IpS X.kw tip od) (ho : QE X W o fo) (hi : QE X W i fi) (hv : QE X W a fv)
    (ha : ∀ ov iv new, augStore i ov iv new = (do holding [new, ov, iv] (setItem ov iv new); release [new, ov, iv] []; pure .next) := by intros; rfl) : QS X W (.AugAssign (.Subscript o i tpos) op a pos) (sAugI od fo fi fv) := ps_imp (ps_augS ho hi get_list hv hop set_list ha) fun D g H h => by
  refine rds_bind (R := VR X.kw) (k := fun e o S1 => sBind fi (fun e i S2 => match ixL S2 o i with
    | some x => sBind fv (fun e y S3 => match od x y with
      | some z => (match setD S3 o i z with
        | some S4 => .nx e S4
        | none => .no)
      | none => .no) e S2
    | none => .no) e S1) h fun L0 io0 H0 L io H1 e S d v fr rv q => ?_
  refine outR.bind (R := VR X.kw) (k := fun e i S2 => match ixL S2 d i with
    | some x => sBind fv (fun e y S3 => match od x y with
      | some z => (match setD S3 d i z with
        | some S4 => .nx e S4
        | none => .no)
      | none => .no) e S2
    | none => .no) fr q fun L2 io2 H2 S2 di vi s2 fr2 ri q => ?_
  have rv2 := rv.step s2 fr.st.sub
  cases hx : ixL S2 d di with
  | none => rw [hx] at q; exact q.elim
  | some x =>
    rw [hx] at q
    simp only at q
    cases di with
    | int n =>
      simp only [ixL] at hx
      cases hl : asL S2 d with
      | none => rw [hl] at hx; cases hx
      | some l =>
        rw [hl] at hx
        obtain ⟨p, xs, rfl, hs, t⟩ := asL_ok fr2.st rv2 hl
        obtain ⟨w, h3, h4⟩ := t.atI hx
        cases ri
        refine ⟨p, xs, n, w, rfl, rfl, hs, h3, ?_⟩
        refine outR.bind (R := VR X.kw) (k := fun e y S3 => match od x y with
          | some z => (match setD S3 d (.int n) z with
            | some S4 => .nx e S4
            | none => .no)
          | none => .no) fr2 q fun L3 io3 H3 S3 dy vy s3 fr3 ry q => ?_
        cases hz : od x dy with
        | none => rw [hz] at q; exact q.elim
        | some z =>
          rw [hz] at q
          simp only at q
          refine hod L3 io3 H3 w vy x dy z _ (h4.step s3 fr2.st.sub) ry hz fun vz rz => ?_
          cases hS : setD S3 d (.int n) z with
          | none => rw [hS] at q; exact q.elim
          | some S4 =>
            rw [hS] at q
            exact setD_ok fr3.st (rv2.step s3 fr2.st.sub) (.int n) rz hS fun H' s sr => q g H' L3 io3 (s.stw fr3.st.sub) (fr3.step s sr)
    | _ => cases hx
/-- x += e -/
def sAug (op : Dv → Dv → Option Dv) (n : Nat) (fv : DE) : DS := fun e S => match e[n]? with
  | some (.va x) => sBind fv (fun e y S1 => match op x y with
    | some z => .nx (e.set n (.va z)) S1
    | none => .no) e S
  | _ => .no
end
def startE (n : Nat) (l : List Dv) : Env := l.map Sl.va ++ List.replicate (n - l.length) .no
def runF (np n : Nat) (fb : DS) : DF := fun S l => if l.length = np then (match fb (startE n l) S with
  | .rt d S' => .ok d S'
  | .nx _ S' => .ok .non S'
  | .ex c fs _ S' => .ex c fs S'
  | _ => .no) else .no
theorem VRs.map_get {K : Kw} {L : Addr → Prop} {io : List Addr} {H : Hp} {vs : List V} {l : List Dv} (r : VRs K L io H vs l) {i : Nat} {d : Dv} {n m : Nat} (h : (l.map Sl.va ++ List.replicate n Sl.no)[i]? = some (.va d)) : ∃ v, (vs.map some ++ List.replicate m (none : Option V))[i]? = some (some v) ∧ VR K L io H v d := by
  by_cases hi : i < l.length
  · rw [List.getElem?_append_left (by rw [List.length_map]; exact hi), List.getElem?_map] at h
    cases q : l[i]? with
    | none => rw [q] at h; cases h
    | some z =>
      rw [q] at h
      cases h
      obtain ⟨v, h1, h2⟩ := r.get q
      refine ⟨v, ?_, h2⟩
      rw [List.getElem?_append_left (by rw [List.length_map, r.len]; exact hi), List.getElem?_map, h1]
      rfl
  · rw [List.getElem?_append_right (by rw [List.length_map]; omega), List.getElem?_replicate] at h
    split at h <;> cases h
theorem start_no {l : List Dv} {n i : Nat} {s : Sl} (h : (l.map Sl.va ++ List.replicate n Sl.no)[i]? = some s) : (∃ d, s = .va d) ∨ s = .no := by
  by_cases hi : i < l.length
  · rw [List.getElem?_append_left (by rw [List.length_map]; exact hi), List.getElem?_map] at h
    cases q : l[i]? with
    | none => rw [q] at h; cases h
    | some z => rw [q] at h; cases h; exact .inl ⟨z, rfl⟩
  · rw [List.getElem?_append_right (by rw [List.length_map]; omega), List.getElem?_replicate] at h
    split at h
    · cases h; exact .inr rfl
    · cases h
theorem fr_start {K : Kw} {L : Addr → Prop} {io : List Addr} {H : Hp} {S : Sto} {vs : List V} {l : List Dv} {N : List Str} (sr : SR K L io H S) (r : VRs K L io H vs l) : FR K L io H L io H (L2.start N vs) (startE N.length l) S where
  st := sr
  len := by
    unfold L2.start startE
    rw [List.length_append, List.length_append, List.length_map, List.length_map, List.length_replicate, List.length_replicate, r.len]
  va := fun i d h => r.map_get h
  own := fun i m h => by rcases start_no h with ⟨d, z⟩ | z <;> cases z
  inj := fun i j p _ v1 _ n1 _ g1 _ => by
    cases h : (startE N.length l)[i]? with
    | none =>
      have h1 := List.getElem?_eq_none_iff.mp h
      have h2 := (List.getElem?_eq_some_iff.mp g1).1
      unfold L2.start at h2
      unfold startE at h1
      rw [List.length_append, List.length_map, List.length_replicate] at h1 h2
      rw [r.len] at h2
      omega
    | some s =>
      rcases start_no h with ⟨d, z⟩ | z
      · rw [z] at h; exact absurd h (v1 d)
      · rw [z] at h; exact absurd h n1
  en := Stp.refl ..
  sub0 := sr.sub
  dom0 := sr.dom
section
variable {P : Program} {w : World} {K : Kw} {mg : Str → Option Value} {base : Heap} {CX : CXT} {name qual : Str} {params : Arguments} {body : List Stmt} {scope : Scope} {dvs : List V} {kws : List (Str × V)} {f : Addr} {fd : FuncData} {N ps : List Str} {k : Nat} {fb : DS}
/-- what leaves the frame -/
theorem leave {L0 L : Addr → Prop} {io0 io : List Addr} {H0 H : Hp} {S : Sto} (sr : SR K L io H S) (s : Stp L0 io0 H0 L io H) (sub0 : ∀ a ∈ io0, L0 a) : Stp L0 io0 H0 (Lx L0 io) io H ∧ SR K (Lx L0 io) io H S ∧ (∀ a, Lx L0 io a → L a) := by
  have hl : ∀ a, Lx L0 io a → L a := fun a z => z.elim (s.up a) (sr.sub a)
  refine ⟨⟨s.pre, s.hn, fun a z => z.elim .inl fun z => (s.hn a z).elim (fun q => .inl (sub0 a q)) .inr, s.keep, fun a z => .inl z⟩, sr.less hl fun a z => .inr z, hl⟩
/-- a def of the text, by its body's walk: as fn_of, the calls' room without guards -/
theorem fng_of {dV kV doc pm cdv ct oc : Value} {an od : Option Addr} {osl : Array (Option Value)} {sp : Sp} (lk : K.lookup f = some ⟨oc, od, .func (PySem.W.fnOf name qual params body scope dV kV doc pm an cdv ct), osl⟩) (hc : PySem.W.codeIn K cdv qual = true) (Sc : FnScope N ps scope)
    (hl : ∀ vs H Q E, sp vs H Q E → vs.length = ps.length)
    (hb : ∀ (A : Around) (up : List PySem.Env) (s : Shared) (H : Hp) (vs : List V) (Q : VK) (E : XK), RoomG k (A.deeper (PyProof.Rows.envOfC qual scope s.heap.objs.size f cdv)) → sp vs H Q E →
      ∃ t, PSs (cxOf (L2.CX P K.w) P K.w K mg base N qual scope f cdv A up s H E) body t ∧ t { nx := fun _ H' => Q .non H', rt := Q } (L2.start N vs) H) :
    FnG P K.w K mg base (k + 1) f (PySem.W.fnOf name qual params body scope dV kV doc pm an cdv ct) ps sp := by
  constructor
  · exact hl
  intro A up s H args us vs Q E room e0 bd rv q
  have kin := e0.mod.kin.keeps fun b o z => (e0.bs b o z).1
  have nol := e0.mod.nolimit.keeps fun b o z => (e0.bs b o z).1
  have kinds : ∀ y ∈ ps.zip us, scope.names.lookup y.1 = some .local ∨ (scope.names.lookup y.1 = some .cell ∧ ((PySem.cellsFrom (s.heap.objs.size + 1) scope.names []).lookup y.1).isSome = true) := by
    rintro ⟨n, v⟩ hy
    have := Sc.par n (List.of_mem_zip hy).1
    rcases this with z | z
    · exact .inl z
    · exact .inr ⟨z, PySem.W.cellsFrom_some _ _ _ (.inl z)⟩
  refine codeAny_call_function room.r.depth (kin _ _ lk) rfl Sc.co Sc.gen rfl (PySem.W.codeRec_of kin hc) (bd _ _ _ _ ?_)
  refine wpAny_newFunctionEnv_cells Sc.kind kinds fun env he s1 x => ?_
  cases he
  obtain ⟨t, ht, hq⟩ := hb A up s H vs Q E (room.deeper _) q
  have I0 := inv_start (CX := L2.CX P K.w) (E := E) Sc room.r.hd e0 (hl _ _ _ _ q) rv x
  refine ⟨nol.keeps x.toInCall.keep, codeAny_func (wpAny_mono (ht.run [] s1 _ H _ I0 hq) ?_ fun _ _ z => z)⟩
  intro fl s' z
  match fl, z with
  | .ret u, ⟨v, g', H', J, r, q⟩ => exact ⟨v, H', J.os, J.bare, J.base, J.hok, r, q⟩
  | .next, ⟨g', H', J, q⟩ => exact ⟨.non, H', J.os, J.bare, J.base, J.hok, rfl, q⟩
  | .brk, ⟨_, _, _, q⟩ => exact q.elim
  | .cont, ⟨_, _, _, q⟩ => exact q.elim
/-- the body of a def as a piece over data -/
abbrev BodyG (P : Program) (w : World) (K : Kw) (mg : Str → Option Value) (base : Heap) (N : List Str) (qual : Str) (scope : Scope) (f : Addr) (k : Nat) (body : List Stmt) (fb : DS) : Prop :=
  ∀ (cdv : Value) (A : Around) (up : List PySem.Env) (s : Shared) (H : Hp) (E : XK), RoomG k (A.deeper (PyProof.Rows.envOfC qual scope s.heap.objs.size f cdv)) → Takes (cxOf (L2.CX P w) P w K mg base N qual scope f cdv A up s H E) (fun c d _ H => E c d H) →
    PassesOwn (model P w) (A.deeper (PyProof.Rows.envOfC qual scope s.heap.objs.size f cdv)) (PyProof.Rows.envOfC qual scope s.heap.objs.size f cdv) (cxOf (L2.CX P w) P w K mg base N qual scope f cdv A up s H E).xe →
    QSs (cxOf (L2.CX P w) P w K mg base N qual scope f cdv A up s H E) (fun c d _ H => E c d H) body fb
theorem fn_mk (F : FunD K name qual params body scope dvs kws f fd) (Sc : FnScope N ps scope) (hb : BodyG P K.w K mg base N qual scope f k body fb) :
    FnG P K.w K mg base (k + 1) f fd ps (spD K (runF ps.length N.length fb)) := by
  obtain ⟨oc, od, dV, kV, doc, pm, an, cdv, ct, osl, rfl, lk, hcd, _, _⟩ := F.ex
  refine fng_of lk hcd Sc (fun vs H Q E h => ?_) fun A outer s H vs Q E hr h => ⟨_, hb cdv A outer s H E hr (takes_of rfl rfl rfl rfl) (passes_of rfl), ?_⟩
  · obtain ⟨L, io, S, l, sr, r, h⟩ := h
    unfold runF at h
    by_cases hl : l.length = ps.length
    · rw [r.len, hl]
    · rw [if_neg hl] at h; exact h.elim
  · obtain ⟨L, io, S, l, sr, r, h⟩ := h
    unfold runF at h
    by_cases hl : l.length = ps.length
    · rw [if_pos hl] at h
      refine ⟨L, io, H, L, io, startE N.length l, S, fr_start sr r, ?_⟩
      show outR K _ L io H _ L io H (fb (startE N.length l) S)
      cases hf : fb (startE N.length l) S with
      | nx e S' =>
        rw [hf] at h
        intro g H' L' io' sw fr
        obtain ⟨s1, s2, s3⟩ := leave fr.st fr.en fr.sub0
        exact h .non H' io' s1 s2 .non
      | rt d S' =>
        rw [hf] at h
        intro v H' L' io' sr' s r'
        obtain ⟨s1, s2, s3⟩ := leave sr' s sr.sub
        exact h v H' io' s1 s2 (r'.less s3)
      | ex c fs e S' =>
        rw [hf] at h
        intro x g H' L' io' sw fr rx
        obtain ⟨s1, s2, s3⟩ := leave fr.st fr.en fr.sub0
        rcases rx with rx | ⟨a, vs', e1, e2, e3, e4⟩
        · exact h x H' io' s1 s2 (.inl rx)
        exact h x H' io' s1 s2 (.inr ⟨a, vs', e1, fun z => e2 (s3 a z), e3, e4.mono fun v d r => r.less s3⟩)
      | _ => rw [hf] at h; exact h.elim
    · rw [if_neg hl] at h; exact h.elim
end
end DL
namespace DL
open PySem L2
mutual
def litB (K : PySem.W.Frag) : Dv → Value → Bool
  | .non, .none => true
  | .bl b, .bool c => b == c
  | .int i, .int j _ => decide (i = j)
  | .str x, .str y _ => decide (x = y)
  | .tup l, .ref a => (match K.lookup a with
    | some ⟨.type c, none, .seq its _, _⟩ => decide (c = "tuple") && (decide (its.size ≤ sizeLine) && litsB K l its.toList)
    | _ => false)
  | .rol l, .ref a => (match K.lookup a with
    | some ⟨.type c, none, .seq its _, _⟩ => decide (c = "list") && (decide (its.size ≤ sizeLine) && litsB K l its.toList)
    | _ => false)
  | _, _ => false
def litsB (K : PySem.W.Frag) : List Dv → List Value → Bool
  | [], [] => true
  | d :: l, u :: us => litB K d u && litsB K l us
  | _, _ => false
end
inductive Ft where
  | glo (x : Str) | free (x : Str) | con (x : Str) (d : Dv) | any (p : PySem.W.Frag → Bool)
def Ft.ok (K : PySem.W.Frag) : Ft → Bool
  | .glo x => (He.Fa.glo x).ok K
  | .free x => (He.Fa.free x).ok K
  | .con x d => (match PySem.W.nsIn K mainGlobals x with
    | some (some u) => litB K d u
    | _ => false)
  | .any p => p K
def obsM (fa : List Ft) (fn : List He.DefD) (K : PySem.W.Frag) : He.AlD := ((fa.all fun f => f.ok K) && fn.all fun d => d.ok K, fn.map fun d => He.fnW K d.at_)
def SaysM (fa : List Ft) (fn : List He.DefD) (K : PySem.W.Frag) : Prop := obsM fa fn K = He.valD fn
section
variable {fa : List Ft} {fn : List He.DefD} {K : PySem.W.Frag}
theorem SaysM.fact (c : SaysM fa fn K) (i : Nat) {f : Ft} (h : fa[i]? = some f := by rfl) : f.ok K = true := by
  have c1 := (He.ba (show ((fa.all fun f => f.ok K) && fn.all fun d => d.ok K) = true from congrArg (fun z : He.AlD => z.1) c)).1
  exact List.all_eq_true.mp c1 f (List.mem_of_getElem? h)
theorem SaysM.def_ (c : SaysM fa fn K) (i : Nat) {d : He.DefD} (h : fn[i]? = some d := by rfl) : ∃ fd, FunD K d.name d.qual d.params d.body d.scope (d.dvs K) (d.kws K) (He.fAd K d.at_) fd := by
  have c2 := (He.ba (show ((fa.all fun f => f.ok K) && fn.all fun d => d.ok K) = true from congrArg (fun z : He.AlD => z.1) c)).2
  have e : fn.map (fun d => He.fnW K d.at_) = fn.map He.DefD.val := congrArg (fun z : He.AlD => z.2) c
  have e2 : (fn.map fun d => He.fnW K d.at_)[i]? = (fn.map He.DefD.val)[i]? := by rw [e]
  rw [List.getElem?_map, List.getElem?_map, h] at e2
  exact He.DefD.funD (Option.some.inj e2) (List.all_eq_true.mp c2 d (List.mem_of_getElem? h))
end
/-- a def of the module, from its body's walk -/
theorem fd_mk {P : Program} {K : Kw} {mg : Str → Option Value} {base : Heap} {x : Str} {st : Stmt} {N ps : List Str} {k np n : Nat} {fb : DS} (F : ∃ fd, FunD K x x (defArgs st) (defBody st) (defScope st) [] [] (He.ga K x) fd) (hm : mg x = some (.ref (He.ga K x)))
    (Sc : FnScope N ps (defScope st))
    (hbi : ∀ (kV doc pm : Value) (an : Option Addr) (cdv ct : Value) (us : List Value), us.length = ps.length → bindArgs (PySem.W.fnOf x x (defArgs st) (defBody st) (defScope st) .none kV doc pm an cdv ct) ⟨us, []⟩ = pure (ps.zip us))
    (hnp : ps.length = np) (hn : N.length = n) (hb : BodyG P K.w K mg base N x (defScope st) (He.ga K x) (k + 1) (defBody st) fb) : FD P K.w K mg base (k + 2) x (runF np n fb) := by
  subst hnp hn
  obtain ⟨fd, F⟩ := F
  exact ⟨_, fd, ps, fn_mk F Sc hb, hm, rfl, F.kp, F.bindsN hbi⟩
/-- .. of which nothing is asked -/
theorem fd_no {P : Program} {K : Kw} {mg : Str → Option Value} {base : Heap} {x : Str} {st : Stmt} {ps : List Str} {k : Nat} (F : ∃ fd, FunD K x x (defArgs st) (defBody st) (defScope st) [] [] (He.ga K x) fd) (hm : mg x = some (.ref (He.ga K x)))
    (hbi : ∀ (kV doc pm : Value) (an : Option Addr) (cdv ct : Value) (us : List Value), us.length = ps.length → bindArgs (PySem.W.fnOf x x (defArgs st) (defBody st) (defScope st) .none kV doc pm an cdv ct) ⟨us, []⟩ = pure (ps.zip us)) : FD P K.w K mg base k x gNo := by
  obtain ⟨fd, F⟩ := F
  exact ⟨_, fd, ps, FnG.never spD_no, hm, rfl, F.kp, F.bindsN hbi⟩
/-- sys.modules stands in the heap -/
def SysB (h : Heap) : Prop := ∃ mm, h.Ns sysModules mm
section
variable {P : Program} {w : World} {K : Kw} {mg mb : Str → Option Value} {k : Nat} {fa a : Addr} {fd : FuncData} {x : Str} {sp : Sp} {s1 : Shared} {vs : List Value} {ns : List Int}
/-- over an abstract heap that knows the script at most -/
theorem law_over (KX : K.K.In s1.heap) (G : s1.heap.Ns mainGlobals mg) (B : s1.heap.Ns builtinsNs mb) (hB : ∀ y : Str, y ≠ "__name__" → mb y = bootBuiltins y) (nl : s1.heap.NoLimit) (ng : s1.gens = #[]) (hs : SysB s1.heap)
    (oa : s1.heap.get? a = some { cls := .type "list", data := .seq vs.toArray }) (hr : RoomG k callerA)
    (F : ∀ base : Heap, K.K.In base → base.Ns mainGlobals mg → SysB base → FnG P K.w K mg base k fa fd [x] sp) (bd : ∀ (s : Shared) (u : Value), BindsTo s fd ⟨[u], []⟩ [(x, u)])
    (H : Hp) (hO : Only H) (hok : HOk P K.w H s1.heap) (hA : ∀ b, H b ≠ none → b = a) (hK : H a ≠ none → K.K.lookup a = none)
    (q : sp [.ref a] H (fun v _ => v = .bl true) fun _ _ _ => False) :
    codeAny (model P K.w) callerA (.call (.ref fa) ⟨[.ref a], []⟩) (fun r s' => r = .ok (.ret (.bool true)) ∧ OldK s1.heap s'.heap ∧ s'.os = s1.os ∧ PyProof.Rows.AllBare s'.gens) s1 := by
  have free : ∀ {b : Addr} {o : Obj}, s1.heap.get? b = some o → (∀ its n, o.data ≠ .seq its n) → H b = none := by
    intro b o e hn
    by_cases hb : H b = none
    · exact hb
    · cases hA b hb
      rw [oa] at e
      cases e
      exact absurd rfl (hn _ _)
  have nsB : ∀ {b : Addr} {m : Str → Option Value}, s1.heap.Ns b m → (hidT s1.heap H).Ns b m := by
    rintro b m ⟨o, es, ep, e, d, r⟩
    exact ⟨o, es, ep, hidT_get e (free e fun its n z => by rw [d] at z; cases z), d, r⟩
  have KB : K.K.In (hidT s1.heap H) := by
    intro b o e
    refine hidT_get (KX b o e) ?_
    by_cases hb : H b = none
    · exact hb
    · cases hA b hb
      rw [hK hb] at e
      cases e
  obtain ⟨mc, l1, l2⟩ := nl
  have e0 : Env0 P K.w K mg (hidT s1.heap H) callerA [] s1 H :=
    { frames := rfl, mod := ⟨KB, nsB G, ⟨mb, nsB B, hB⟩, mc, nsB l1, l2⟩, bs := fun b o z => of_hidT z, bsz := Nat.le_of_eq (hidT_size _ _), funs := trivial, frf := fun b z => (nomatch (show b ∈ ([] : List Addr) from z)), hok := hok, bare := .of_eq ng }
  refine codeAny_mono ((F _ KB (nsB G) (let ⟨mm, z⟩ := hs; ⟨mm, nsB z⟩)).run _ [] s1 H _ [.ref a] [.ref a] _ _ hr e0 (bd s1 (.ref a)) (.cons rfl .nil) q) ?_
  intro r s' z
  match r, z with
  | .error e, ⟨_, _, _, _, _, _, _, _, _, _, _, _, z⟩ => exact z.elim
  | .ok .next, z => exact z.elim
  | .ok .brk, z => exact z.elim
  | .ok .cont, z => exact z.elim
  | .ok (.ret u), ⟨v, H', os, bare, un, hok', r', z⟩ =>
    cases (show v = .bl true from z)
    cases (show u = Value.bool true from r')
    refine ⟨rfl, OldK.of_keep fun b o e => ?_, os, bare⟩
    rcases hO b with hb | ⟨ob, xs, hb⟩
    · exact un.keep b o e hb (fun z => nomatch (show b ∈ ([] : List Addr) from z)) (fun z => nomatch z)
    · have e1 := (hok b _ hb).1
      have e2 := (hok' b _ (un.frzs b ob _ hb)).1
      rw [e] at e1
      rw [e2, ← e1]
theorem law_g (KX : K.K.In s1.heap) (G : s1.heap.Ns mainGlobals mg) (B : s1.heap.Ns builtinsNs mb) (hB : ∀ y : Str, y ≠ "__name__" → mb y = bootBuiltins y) (nl : s1.heap.NoLimit) (ng : s1.gens = #[]) (hs : SysB s1.heap)
    (oa : s1.heap.get? a = some { cls := .type "list", data := .seq vs.toArray }) (hi : PyProof.Rows.IntsAre vs ns) (hl : ns.length ≤ sizeLine) (hr : RoomG k callerA)
    (F : ∀ base : Heap, K.K.In base → base.Ns mainGlobals mg → SysB base → FnG P K.w K mg base k fa fd [x] sp) (bd : ∀ (s : Shared) (u : Value), BindsTo s fd ⟨[u], []⟩ [(x, u)])
    (q : ∀ H : Hp, SqL K H a (ns.map V.int) → sp [.ref a] H (fun v _ => v = .bl true) fun _ _ _ => False) :
    codeAny (model P K.w) callerA (.call (.ref fa) ⟨[.ref a], []⟩) (fun r s' => r = .ok (.ret (.bool true)) ∧ OldK s1.heap s'.heap ∧ s'.os = s1.os ∧ PyProof.Rows.AllBare s'.gens) s1 := by
  have rv := vals_ints hi
  have hv := hi.length
  by_cases hk : ∃ o, K.K.lookup a = some o
  · obtain ⟨o, hk⟩ := hk
    have e := KX a o hk
    rw [oa] at e
    cases e
    refine law_over KX G B hB nl ng hs oa hr F bd (fun _ => none) (fun _ => .inl rfl) (fun _ _ z => nomatch z) (fun _ z => (z rfl).elim) (fun z => (z rfl).elim) (q _ (.inr ⟨_, vs.toArray, _, hk, rfl, rfl, rfl, ?_, by simpa using rv⟩))
    rw [List.size_toArray, hv]
    exact hl
  · have hk' : K.K.lookup a = none := by
      cases z : K.K.lookup a with
      | none => rfl
      | some o => exact absurd ⟨o, z⟩ hk
    let u : HO := .frz { cls := .type "list", data := .seq vs.toArray } (.lst (ns.map V.int))
    have at_ : ∀ b v, upd (fun _ => none) a u b = some v → b = a ∧ v = u := by
      intro b v z
      by_cases hb : b = a
      · subst hb
        rw [upd_same] at z
        cases z
        exact ⟨rfl, rfl⟩
      · rw [upd_ne hb] at z
        cases z
    refine law_over KX G B hB nl ng hs oa hr F bd (upd (fun _ => none) a u) (fun b => ?_) (fun b v z => ?_) (fun b z => ?_) (fun _ => hk') (q _ (.inl (.inr ⟨_, upd_same⟩)))
    · by_cases hb : b = a
      · exact .inr ⟨_, _, by rw [hb]; exact upd_same⟩
      · exact .inl (upd_ne hb)
    · obtain ⟨rfl, rfl⟩ := at_ b v z
      exact ⟨oa, by rw [List.length_map]; exact hl, vs, _, rv, oa⟩
    · cases h : upd (fun _ => none) a u b with
      | none => exact absurd h z
      | some v => exact (at_ b v h).1
end
/-- the goal that the head leaves -/
theorem walk_g {l : PySem.W.OpenLaw} {n k : Nat} {q : Program} {loose : List Str} {XP : (Str → Option Value) → Heap → Prop} {YP : World → Heap → Prop} {d : DefRec} {x : Str} (hn : l.most = some n) (hz : n ≤ sizeLine) (hd : d.params.defaults = []) (him : PyProof.Rows.importsNone q = true) (hr : RoomG k callerA)
    (F : ∀ (w : World) (mg : Str → Option Value) (fa : Addr) (h : Heap), YP w h → h.Ns mainGlobals mg → mg d.name = some (.ref fa) → ∃ (K : PySem.W.Frag) (fd : FuncData) (sp : Sp), K.In h ∧ (∀ (s : Shared) (u : Value), BindsTo s fd ⟨[u], []⟩ [(x, u)]) ∧
      (∀ (H : Hp) (a : Addr) (ns : List Int), ns.length ≤ n → SqL K H a (ns.map V.int) → sp [.ref a] H (fun v _ => v = .bl true) fun _ _ _ => False) ∧ ∀ base : Heap, K.In base → base.Ns mainGlobals mg → SysB base → FnG l.prog w ⟨K, w⟩ mg base k fa fd [x] sp) :
    PySem.W.WalkO q loose XP YP l.row.toRowW d [] (fun f vs => PySem.call f vs) := by
  refine Att.attach_call hn hd fun w s0 s1 mg mb fa o pm cd doc a vs ns G Y ho hd' hcd hm oa hi hl ng => ?_
  obtain ⟨K, fd, sp, KX, bd, q, hF⟩ := F w mg fa _ Y G.T.g hm
  exact law_g (K := ⟨K, w⟩) KX G.T.g G.T.b G.T.builtins G.T.nolimit ng (let ⟨mm, z, _⟩ := (G.T.seer him).mods; ⟨mm, z⟩) oa hi (Nat.le_trans hl hz) hr hF bd fun H hS => q H a ns hl hS
/-- the law's end -/
theorem law_end {K : Kw} {g : DF} (h : ∀ ns : List Int, ns.length ≤ 63 → ∃ S, g [] [.rol (ns.map .int)] = .ok (.bl true) S) (H : Hp) (a : Addr) (ns : List Int) (hl : ns.length ≤ 63) (hS : SqL K H a (ns.map V.int)) : spD K g [.ref a] H (fun v _ => v = .bl true) fun _ _ _ => False := by
  obtain ⟨S, e⟩ := h ns hl
  have hv : ∀ ns : List Int, VRs K (fun _ => False) [] H (ns.map V.int) (ns.map Dv.int) := fun ns => by
    induction ns with
    | nil => exact .nil
    | cons n r ih => exact .cons (.int n) ih
  refine ⟨fun _ => False, [], [], [.rol (ns.map .int)], ⟨rfl, .nil, fun _ h => (nomatch h), fun _ h => h.elim, fun k a o h => by simp at h⟩, .cons ?_ .nil, ?_⟩
  · rcases hS with hS | hS
    · exact .rol (fun z => z) hS (hv ns)
    · exact .rolK (fun H' => .inr hS) (hv ns)
  · rw [e]
    intro v H' io' _ _ r
    cases r
    rfl
end DL
namespace DL
open PySem L2
section
variable {X : Cx} {W : WX} {elt tg iter : Expr} {ifs : List Expr} {scope : Scope} {own : List (Str × Nat)} {pos spos py : Pos} {fi : DL} {gd : DG} {tt : DT} {te : DE} {y : Str}
/-- name = [..] -/
theorem qs_asgLc (hN' : X.N.Nodup) (i : Nat) (own : List (Str × Nat)) (hc : X.calm = true) (hN : X.N.Nodup) (hi : QI X W tg iter fi) (ok : BlkOk X.N X.env.scope scope own)
    (hg : ∀ (s : Shared) (H : Hp) (C : Addr) (cl : List (Str × Addr)) (fp : List Addr), QG (X.blk s H scope (compEnvC scope cl C X.env) fp) tg gd (own.map (·.2)))
    (ht : ∀ (s : Shared) (H : Hp) (C : Addr) (cl : List (Str × Addr)) (fp : List Addr), QTs (X.blk s H scope (compEnvC scope cl C X.env) fp) W0 ifs tt)
    (he : ∀ (s : Shared) (H : Hp) (C : Addr) (cl : List (Str × Addr)) (fp : List Addr), QE (X.blk s H scope (compEnvC scope cl C X.env) fp) W0 elt te)
    (hy : X.N[i]? = some y := by rfl) (hyl : X.env.scope.names.lookup y = some .local := by rfl)
    (hsw : swapsWith (.ListComp elt [⟨tg, iter, ifs, 0⟩] scope pos) (some (.Name y py)) spos.line X.env = pure true := by exact sw_true rfl rfl rfl (by decide +kernel)) (hs : ∀ x, foldedSetIterable iter X.env x = pure x := by intro _; rfl) :
    QS X W (.Assign [.Name y py] (.ListComp elt [⟨tg, iter, ifs, 0⟩] scope pos) spos) (sAsg i (eFrz (fLc fi gd tt te (own.map (·.2))))) :=
  ps_imp (ps_setLc (g := tgR X.kw gd (own.map (·.2))) (tt := rdt X.kw W0 tt) (te := rd X.kw W0 te) hc hN hy hyl hsw hi ok (fun s H C cl fp => (hg s H C cl fp).canon) ht he hs) fun D g H h => by
    refine rd_lc tgR_ok (rd_frz ?_)
    exact rds_bind (R := VR X.kw) (k := fun e d S => .nx (e.set i (.va d)) S) h fun L0 io0 H0 L io H1 e S d v fr r q => q _ H1 L io (Stw.refl ..) (fr.setV i r)
/-- -e -/
def negD : Dv → Sto → Res Dv
  | .int i, S => .ok (.int (-i)) S
  | _, _ => .no
def eNeg (f : DE) : DE := fun e S => bnd (f e S) negD
end
end DL
namespace DL
open PySem L2
def keyD : Dv → Option Key
  | .int i => some (.inl i)
  | .str x => some (.inr x)
  | _ => none
def dV : Key → Dv
  | .inl i => .int i
  | .inr x => .str x
section
variable {K : Kw} {L L' : Addr → Prop} {io io' : List Addr} {H H' : Hp} {S : Sto}
theorem keyD_ok {v : V} {d : Dv} {k : Key} (r : VR K L io H v d) (h : keyD d = some k) : v = kV k := by
  cases r with
  | int i => cases h; rfl
  | str i => cases h; rfl
  | _ => cases h
def valD (l : List (Key × Dv)) (k : Key) : Option Dv := (l.find? fun kv => decide (kv.1 = k)).map (·.2)
def putD (l : List (Key × Dv)) (k : Key) (d : Dv) : List (Key × Dv) := if (l.any fun kv => decide (kv.1 = k)) = true then l.map (fun kv => if kv.1 = k then (kv.1, d) else kv) else l ++ [(k, d)]
def dropD (l : List (Key × Dv)) (k : Key) : List (Key × Dv) := l.filter fun kv => decide (kv.1 ≠ k)
def mergeD (l more : List (Key × Dv)) : List (Key × Dv) := more.foldl (fun acc kv => putD acc kv.1 kv.2) l
theorem PairR.vrp : ∀ {kvs : List (Key × V)} {l : List (Key × Dv)}, PairR (VR K L io H) kvs l → VRp K L io H kvs l
  | _, _, .nil => .nil
  | (k, v) :: _, (k', d) :: _, .cons ⟨h1, h2⟩ t => by
    cases (show k = k' from h1)
    exact .cons h2 (PairR.vrp t)
theorem PairR.val {R : V → Dv → Prop} : ∀ {kvs : List (Key × V)} {l : List (Key × Dv)} (k : Key), PairR R kvs l → (∀ d, valD l k = some d → ∃ v, valV kvs k = some v ∧ R v d) ∧ (valD l k = none → valV kvs k = none)
  | [], _, k, .nil => ⟨fun d h => (by simp [valD] at h), fun _ => rfl⟩
  | (k1, v) :: kvs, (k2, d) :: l, k, .cons ⟨h1, h2⟩ t => by
    cases (show k1 = k2 from h1)
    have ih := PairR.val k t
    unfold valD valV at ih ⊢
    by_cases e : k1 = k
    · subst e
      refine ⟨fun d' h => ?_, fun h => ?_⟩
      · simp at h; subst h; exact ⟨v, by simp, h2⟩
      · simp at h
    · rw [List.find?_cons, List.find?_cons]
      simp only [e, decide_false]
      exact ih
theorem PairR.any {R : V → Dv → Prop} (k : Key) : ∀ {kvs : List (Key × V)} {l : List (Key × Dv)}, PairR R kvs l → (kvs.any fun kv => decide (kv.1 = k)) = l.any fun kv => decide (kv.1 = k)
  | _, _, .nil => rfl
  | (k1, v) :: kvs, (k2, d) :: l, .cons ⟨h1, h2⟩ t => by
    cases (show k1 = k2 from h1)
    rw [List.any_cons, List.any_cons, PairR.any k t]
theorem PairR.app {R : V → Dv → Prop} : ∀ {kvs kvs' : List (Key × V)} {l l' : List (Key × Dv)}, PairR R kvs l → PairR R kvs' l' → PairR R (kvs ++ kvs') (l ++ l')
  | _, _, _, _, .nil, h => h
  | _, _, _, _, .cons h t, h2 => .cons h (PairR.app t h2)
theorem PairR.mapP {R : V → Dv → Prop} {k : Key} {v : V} {d : Dv} (h : R v d) : ∀ {kvs : List (Key × V)} {l : List (Key × Dv)}, PairR R kvs l → PairR R (kvs.map fun kv => if kv.1 = k then (kv.1, v) else kv) (l.map fun kv => if kv.1 = k then (kv.1, d) else kv)
  | _, _, .nil => .nil
  | (k1, v1) :: kvs, (k2, d1) :: l, .cons ⟨h1, h2⟩ t => by
    cases (show k1 = k2 from h1)
    rw [List.map_cons, List.map_cons]
    refine .cons ?_ (PairR.mapP h t)
    by_cases e : k1 = k
    · rw [if_pos e, if_pos e]; exact ⟨rfl, h⟩
    · rw [if_neg e, if_neg e]; exact ⟨rfl, h2⟩
theorem PairR.put {R : V → Dv → Prop} {k : Key} {v : V} {d : Dv} {kvs : List (Key × V)} {l : List (Key × Dv)} (r : PairR R kvs l) (h : R v d) : PairR R (putK kvs k v) (putD l k d) := by
  unfold putK putD
  rw [r.any k]
  split
  · exact r.mapP h
  · exact r.app (.cons ⟨rfl, h⟩ .nil)
theorem PairR.drop {R : V → Dv → Prop} (k : Key) : ∀ {kvs : List (Key × V)} {l : List (Key × Dv)}, PairR R kvs l → PairR R (dropK kvs k) (dropD l k)
  | _, _, .nil => .nil
  | (k1, v1) :: kvs, (k2, d1) :: l, .cons ⟨h1, h2⟩ t => by
    cases (show k1 = k2 from h1)
    have ih := PairR.drop k t
    unfold dropK dropD at ih ⊢
    rw [List.filter_cons, List.filter_cons]
    by_cases e : k1 = k
    · simp only [e, ne_eq, not_true, decide_false, Bool.false_eq_true, if_false]; exact ih
    · simp only [ne_eq, e, not_false_iff, decide_true, if_true]; exact .cons ⟨rfl, h2⟩ ih
end
def NewD (K : Kw) (H : Hp) (L' : Addr → Prop) (io' : List Addr) (H' : Hp) (v : V) (l : List (Key × Dv)) : Prop := ∃ p kvs, v = .ref p ∧ H p = none ∧ L' p ∧ p ∉ io' ∧ H' p = some (.dK kvs) ∧ PairR (VR K L' io' H') kvs l
abbrev DD := Env → Sto → Res (List (Key × Dv))
def FinD (K : Kw) (W : WX) (g : St) (L : Addr → Prop) (io : List Addr) (H : Hp) (Q : V → Hp → Prop) : Res (List (Key × Dv)) → Prop
  | .ok d S' => ∀ (v : V) (H' : Hp) (L' : Addr → Prop) (io' : List Addr), Stp L io H L' io' H' → SR K L' io' H' S' → NewD K H L' io' H' v d → Q v H'
  | .ex c fs S' => ∀ (x : Option Addr) (H' : Hp) (L' : Addr → Prop) (io' : List Addr), Stp L io H L' io' H' → SR K L' io' H' S' → ExR K L' io' H' x fs → W (.ref (He.ga K c)) x g H'
  | .no => False
def rdD (K : Kw) (W : WX) (f : DD) : TE := fun g H Q => ∃ (L0 : Addr → Prop) (io0 : List Addr) (H0 : Hp) (L : Addr → Prop) (io : List Addr) (e : Env) (S : Sto), FR K L0 io0 H0 L io H g e S ∧ FinD K W g L io H Q (f e S)
abbrev QD (X : Cx) (W : WX) (e : Expr) (f : DD) : Prop := PE X e (rdD X.kw W f)
def eFrzD (f : DD) : DE := fun e S => bnd (f e S) fun l S' => .ok (.dic l) S'
/-- {} -/
def dNil : DD := fun _ S => .ok [] S
theorem qd_nil {X : Cx} {W : WX} {pos : Pos} : QD X W (.Dict [] [] pos) dNil := pe_imp pe_dnewK fun g H Q q => by
  obtain ⟨L0, io0, H0, L, io, e, S, fr, q⟩ := q
  intro p hp
  exact q _ _ (Ly L p) io (Stp.newV hp) (fr.st.newV hp) ⟨p, [], rfl, hp, .inr rfl, fun z => fr.st.dom p (fr.st.sub p z) hp, upd_same, .nil⟩
/-- {k: v, ..} -/
abbrev DP := Env → Sto → Res (List (Dv × Dv))
def pNil : DP := fun _ S => .ok [] S
def pCons (fk fv : DE) (fp : DP) : DP := fun e S => bnd (fk e S) fun k S1 => bnd (fv e S1) fun v S2 => bnd (fp e S2) fun l S3 => .ok ((k, v) :: l) S3
section
variable {X : Cx} {W : WX} {pos : Pos} {k v o i : Expr} {ks : List (Option Expr)} {vs : List Expr} {fk fv f f2 : DE} {fp : DP}
def keysD : List (Dv × Dv) → Option (List (Key × Dv))
  | [] => some []
  | (k, v) :: r => (keyD k).bind fun k' => (keysD r).map fun l => (k', v) :: l
def kDisp (l : List (Dv × Dv)) (S : Sto) : Res (List (Key × Dv)) := match keysD l with
  | some m => if m.length ≤ 15 then .ok (mergeD [] m) S else .no
  | none => .no
def dDisp (fp : DP) : DD := fun e S => bnd (fp e S) kDisp
theorem FinD.later {K : Kw} {g : St} {L L1 : Addr → Prop} {io io1 : List Addr} {H H1 : Hp} {S1 : Sto} {Q : V → Hp → Prop} {r : Res (List (Key × Dv))} (h : FinD K W g L io H Q r) (s : Stp L io H L1 io1 H1) (sub : ∀ x ∈ io, L x) (sr1 : SR K L1 io1 H1 S1) : FinD K W g L1 io1 H1 Q r := by
  cases r with
  | ok l S2 =>
    intro v H' L' io' s2 sr2 ⟨p, xs, e1, e2, e3⟩
    refine h v H' L' io' (s.trans s2 sub) sr2 ⟨p, xs, e1, ?_, e3⟩
    rcases s.back e2 with z | z
    · exact absurd e2 (sr1.dom p (s.up p (sub p z)))
    · exact z
  | ex c fs S2 => exact fun v H' L' io' s2 sr r2 => h v H' L' io' (s.trans s2 sub) sr r2
  | no => exact h
/-- d[k], of a frozen dict or a handle's -/
def asD (S : Sto) : Dv → Option (List (Key × Dv))
  | .dic l => some l
  | .hdl k => match S[k]? with
    | some (.dct l) => some l
    | _ => none
  | _ => none
end
def kStrM (h : Sto → Str → List Dv → Option (Dv × Sto)) (fa : DA) (e : Env) (d : Dv) (S : Sto) : Res Dv := match d with
  | .str z => bnd (fa e S) fun as S2 => ofO (h S2 z as)
  | _ => .no
def eStrM (h : Sto → Str → List Dv → Option (Dv × Sto)) (f : DE) (fa : DA) : DE := fun e S => bnd (f e S) (kStrM h fa e)
def insD (l as : List Dv) : Option (List Dv × Dv) := match as with
  | [.int i, d] => if l.length < sizeLine ∧ 0 ≤ i ∧ i < 2 ^ 63 then some (l.take i.toNat ++ [d] ++ l.drop i.toNat, .non) else none
  | _ => none
theorem owns_ins {K : Kw} : OwnS K (fun x vs H Q => ∃ (l : Addr) (xs : List V) (i : Int) (y : V), x = .ref l ∧ vs = [.int i, y] ∧ H l = some (.lst xs) ∧ xs.length < sizeLine ∧ 0 ≤ i ∧ i < 2 ^ 63 ∧
    Q .non (upd H l (.lst (xs.take i.toNat ++ [y] ++ xs.drop i.toNat)))) insD := by
  intro L io H S p xs l vs as l' d Q sr hp lp rx ra hh q
  cases ra with
  | nil => cases hh
  | cons r t =>
    cases t with
    | nil => simp [insD] at hh
    | cons r2 t2 =>
      cases t2 with
      | cons => simp [insD] at hh
      | nil =>
        cases r with
        | int i =>
          simp only [insD] at hh
          split at hh
          · rename_i hl
            cases hh
            exact ⟨p, xs, i, _, rfl, rfl, hp, by rw [rx.len]; exact hl.1, hl.2.1, hl.2.2, q _ _ (((rx.take _).app (.cons r2 .nil)).app (rx.drop _)) .non⟩
          · cases hh
        | _ => cases hh
/-- len(found), found the slot's own -/
def eLenO (i : Nat) : DE := fun e S => match e[i]? with
  | some (.own (.lst l)) => .ok (.int l.length) S
  | _ => .no
/-- what is a slot's own becomes a handle's -/
def sHdl (i : Nat) : DS := fun e S => match e[i]? with
  | some (.own o) => .nx (e.set i (.va (.hdl S.length))) (S ++ [o])
  | _ => .no
end DL
namespace DL
open PySem L2
def insOf (S : Sto) : Dv → Option (Str × List (Str × Dv))
  | .obj c fs => some (c, fs)
  | .hdl k => match S[k]? with
    | some (.ins c fs) => some (c, fs)
    | _ => none
  | _ => none
section
variable {K : Kw} {L L' : Addr → Prop} {io io' : List Addr} {H H' : Hp} {S : Sto}
theorem insOf_ok {v : V} {d : Dv} {c : Str} {fs : List (Str × Dv)} (s : SR K L io H S) (r : VR K L io H v d) (h : insOf S d = some (c, fs)) : ∃ a dx vs, v = .ref a ∧ H a = some (.ins (He.ga K c) dx vs) ∧ PairR (VR K L io H) vs fs := by
  cases r with
  | obj nl e t => cases h; exact ⟨_, _, _, rfl, e, of_vrf t⟩
  | hdl hk =>
    rename_i a k
    cases q : S[k]? with
    | none => simp [insOf, q] at h
    | some o =>
      cases o with
      | ins c' l' =>
        simp [insOf, q] at h
        obtain ⟨rfl, rfl⟩ := h
        obtain ⟨dx, vs, e, t⟩ := s.obj k a _ hk q
        exact ⟨a, dx, vs, rfl, e, t⟩
      | _ => simp [insOf, q] at h
  | _ => cases h
theorem PairR.look {R : V → Dv → Prop} (f : Str) : ∀ {vs : List (Str × V)} {fs : List (Str × Dv)}, PairR R vs fs → (∀ d, fs.lookup f = some d → ∃ v, vs.lookup f = some v ∧ R v d) ∧ (fs.lookup f = none → vs.lookup f = none)
  | [], _, .nil => ⟨fun d h => (by simp at h), fun _ => rfl⟩
  | (k1, v) :: vs, (k2, d) :: fs, .cons ⟨h1, h2⟩ t => by
    cases (show k1 = k2 from h1)
    have ih := PairR.look f t
    rw [List.lookup_cons, List.lookup_cons]
    cases e : f == k1 with
    | true => exact ⟨fun d' h => (by cases h; exact ⟨v, rfl, h2⟩), fun h => (by cases h)⟩
    | false => exact ih
def putFD (f : Str) (d : Dv) : List (Str × Dv) → List (Str × Dv)
  | [] => [(f, d)]
  | (g, x) :: r => if g = f then (g, d) :: r else (g, x) :: putFD f d r
theorem PairR.putF {R : V → Dv → Prop} {f : Str} {v : V} {d : Dv} (h : R v d) : ∀ {vs : List (Str × V)} {fs : List (Str × Dv)}, PairR R vs fs → PairR R (L2.putF f v vs) (putFD f d fs)
  | [], _, .nil => .cons ⟨rfl, h⟩ .nil
  | (k1, w) :: vs, (k2, x) :: fs, .cons ⟨h1, h2⟩ t => by
    cases (show k1 = k2 from h1)
    unfold L2.putF putFD
    by_cases e : k1 = f
    · rw [if_pos e, if_pos e]; exact .cons ⟨rfl, h⟩ t
    · rw [if_neg e, if_neg e]; exact .cons ⟨rfl, h2⟩ (PairR.putF h t)
theorem PairR.size {R : V → Dv → Prop} : ∀ {vs : List (Str × V)} {fs : List (Str × Dv)}, PairR R vs fs → vs.length = fs.length
  | [], _, .nil => rfl
  | _ :: vs, _ :: fs, .cons _ t => by rw [List.length_cons, List.length_cons, PairR.size t]
end
/-- o.f -/
def kFld (c f : Str) (d : Dv) (S : Sto) : Res Dv := match insOf S d with
  | some (c', fs) => if c' = c then (match fs.lookup f with
    | some x => .ok x S
    | none => .no) else .no
  | none => .no
def eFld (c f : Str) (fo : DE) : DE := fun e S => bnd (fo e S) (kFld c f)
/-- what the text says of a field of a class -/
structure Fl (K : Kw) (c f : Str) : Prop where
  kc : Cls K (He.ga K c)
  kn : NoAttr K (He.ga K c) f
section
variable {X : Cx} {W : WX} {pos pos' : Pos} {o a : Expr} {f c : Str} {fo fv : DE}
theorem qe_fld (hf : Fl X.kw c f) (h : QE X W o fo) (hb : attributeBase o f X.env (eval o X.env) = eval o X.env := by rfl) : QE X W (.Attribute o f pos) (eFld c f fo) := pe_imp (pe_fld h hb) fun g H Q q => by
  refine Rdg.bind (R := VR X.kw) (k := fun _ => kFld c f) q fun L0 io0 H0 L io H1 e S d v fr rv q1 => ?_
  replace q := q1
  unfold kFld at q
  cases h1 : insOf S d with
  | none => rw [h1] at q; exact q.elim
  | some z =>
    obtain ⟨c', fs⟩ := z
    rw [h1] at q
    simp only at q
    split at q
    · rename_i hc
      subst hc
      obtain ⟨p, dx, vs, rfl, e1, e2⟩ := insOf_ok fr.st rv h1
      cases h2 : fs.lookup f with
      | none => rw [h2] at q; exact q.elim
      | some x =>
        rw [h2] at q
        obtain ⟨v, e3, e4⟩ := (e2.look f).1 x h2
        exact ⟨p, _, dx, vs, v, rfl, e1, hf.kc, hf.kn, e3, q.ok1 fr.st e4⟩
    · exact q.elim
/-- o.f = v, o a handle -/
def setF (c f : Str) (S : Sto) (o v : Dv) : Option Sto := match o with
  | .hdl k => match S[k]? with
    | some (.ins c' fs) => if c' = c ∧ fs.length < 1000 then some (S.set k (.ins c' (putFD f v fs))) else none
    | _ => none
  | _ => none
def sFldH (c f : Str) (fo fv : DE) : DS := sBind fv fun e v S => sBind fo (fun e o S2 => match setF c f S2 o v with
  | some S3 => .nx e S3
  | none => .no) e S
theorem qs_fld (hf : Fl X.kw c f) (ho : QE X W o fo) (hv : QE X W a fv) (hs : swapsWith a (some (.Attribute o f pos')) pos.line X.env = pure false := by rfl) : QS X W (.Assign [.Attribute o f pos'] a pos) (sFldH c f fo fv) := ps_imp (ps_fld ho hv hs) fun D g H h => by
  refine rds_bind (R := VR X.kw) (k := fun e v S => sBind fo (fun e o S2 => match setF c f S2 o v with
    | some S3 => .nx e S3
    | none => .no) e S) h fun L0 io0 H0 L io H1 e S dv v fr rv q => ?_
  refine outR.bind (R := VR X.kw) (k := fun e o S2 => match setF c f S2 o dv with
    | some S3 => .nx e S3
    | none => .no) fr q fun M2 io2 H2 S2 d y s2 fr2 ro q1 => ?_
  replace q := q1
  cases d with
  | hdl k =>
    simp only [setF] at q
    cases h1 : S2[k]? with
    | none => rw [h1] at q; exact q.elim
    | some ob =>
      cases ob with
      | ins c' fs =>
        rw [h1] at q
        simp only at q
        split at q
        · rename_i S3 hz
          split at hz
          · rename_i hc
            cases hz
            obtain ⟨hc, hl⟩ := hc
            subst hc
            cases ro with
            | hdl hk =>
              rename_i p
              obtain ⟨dx, vs, e1, e2⟩ := fr2.st.obj k p _ hk h1
              have lp : M2 p := fr2.st.sub p (List.mem_of_getElem? hk)
              refine ⟨p, _, dx, vs, rfl, e1, hf.kc, hf.kn, by rw [e2.size]; exact hl, ?_⟩
              have st : Stp M2 io2 H2 M2 io2 (upd H2 p (.ins (He.ga X.kw c') dx (putF f v vs))) := Stp.mutH (List.mem_of_getElem? hk)
              have sr := fr2.st.setH (ob := .ins c' (putFD f dv fs)) (o := .ins (He.ga X.kw c') dx (putF f v vs)) hk ⟨dx, _, upd_same, (PairR.putF (rv.step s2 fr.st.sub) e2).mono fun v d r => r.mut lp⟩
              exact q g _ M2 io2 (st.stw fr2.st.sub) (fr2.step st sr)
          · cases hz
        · exact q.elim
      | _ => rw [h1] at q; exact q.elim
  | _ => exact q.elim
end
/-- the method m of the class c answers as g, the data dl behind the arguments of the call -/
def FM (P : Program) (w : World) (K : Kw) (mg : Str → Option Value) (base : Heap) (k : Nat) (c m : Str) (dl : List Dv) (g : DF) : Prop :=
  ∃ (f : Addr) (fd : FuncData) (ps : List Str) (ds : List Value) (dvs : List V), FnG P w K mg base k f fd ps (spD K g) ∧ Cls K (He.ga K c) ∧ Meth K (He.ga K c) m f ∧ Binds K fd ps ds ∧ Vals dvs ds ∧ ∀ L io H, VRs K L io H dvs dl
def kMeth (c m : Str) (dl : List Dv) (g : DF) (fa : DA) (e : Env) (d : Dv) (S : Sto) : Res Dv := match insOf S d with
  | some (c', fs) => if c' = c ∧ (fs.lookup m).isNone = true then bnd (fa e S) fun as S2 => g S2 (d :: (as ++ dl)) else .no
  | none => .no
def eMeth (c m : Str) (dl : List Dv) (g : DF) (fo : DE) (fa : DA) : DE := fun e S => bnd (fo e S) (kMeth c m dl g fa e)
section
variable {X : Cx} {W : WX} {apos pos : Pos} {o e : Expr} {es : List Expr} {m c : Str} {fo : DE} {fa : DA} {dl : List Dv} {g : DF} {k : Nat} {pl : Sem Bool}
/-- what a method's call asks, behind the object -/
def tMG (C : Addr) (m : Str) (sp : Sp) (dvs : List V) (W : WX) (ta : TE) (t : TA) : TE := fun σ H Q => ta σ H fun x H1 => ∃ a dx fs, x = .ref a ∧ H1 a = some (.ins C dx fs) ∧ fs.lookup m = none ∧
  t σ H1 fun vs H2 => sp (x :: (vs ++ dvs)) H2 Q (fun c d H' => W c d σ H')
theorem rd_meth {dvs : List V} (hd : ∀ L io H, VRs X.kw L io H dvs dl) {st : St} {H : Hp} {Q : VK} (q : rd X.kw W (eMeth c m dl g fo fa) st H Q) : tMG (He.ga X.kw c) m (spD X.kw g) dvs W (rd X.kw W fo) (rda X.kw W fa) st H Q := by
  refine Rdg.bind (R := VR X.kw) (k := kMeth c m dl g fa) q fun L0 io0 H0 L io H1 e S d v fr rv q1 => ?_
  replace q := q1
  unfold kMeth at q
  cases h1 : insOf S d with
  | none => rw [h1] at q; exact q.elim
  | some z =>
    obtain ⟨c', fs⟩ := z
    rw [h1] at q
    simp only at q
    split at q
    · rename_i hc
      obtain ⟨hc, hl⟩ := hc
      subst hc
      obtain ⟨p, dx, vs, rfl, e1, e2⟩ := insOf_ok fr.st rv h1
      refine ⟨p, dx, vs, rfl, e1, (e2.look m).2 (Option.isNone_iff_eq_none.mp hl), ?_⟩
      refine Fin.bind (R := VRs X.kw) (k := fun as S2 => g S2 (d :: (as ++ dl))) fr q fun L2 io2 H2 S2 as ws s2 fr2 r2 q => ?_
      exact spD_fin fr2.st (.cons (rv.step s2 fr.st.sub) (r2.app (hd _ _ _))) q
    · exact q.elim
theorem qe_meth (F : FM X.prog X.w X.kw X.mg X.base k c m dl g) (hr : RoomG (k + 1) X.A) (tk : Takes X W) (ho : QE X W o fo) (ha : QA X W (e :: es) fa)
    (hst : starEach (e :: es) X.env = (false, eval e X.env) :: starEach es X.env := by rfl) (hpl : (backTo pos (starEach es X.env)).any (·.1) = false := by rfl)
    (ht : eval (.Call (.Attribute o m apos) (e :: es) [] pos) X.env = (do
      let ov ← eval o X.env
      standAt apos.atName
      let (f, first) ← holding [ov] (getMethod ov m pl)
      callWith pos f first (backTo pos (starEach (e :: es) X.env)) (backToKw pos (keywordEach [] X.env))) := by rfl) : QE X W (.Call (.Attribute o m apos) (e :: es) [] pos) (eMeth c m dl g fo fa) := by
  obtain ⟨f, fd, ps, ds, dvs, F, hc, hm, hb, hv, hd⟩ := F
  refine ⟨fun pins s st H Q I q => PySem.W.methodCall_KW (pl := pl) (thn (ho.run pins s st H _ I (rd_meth hd q)) fun u s1 z => ?_) ht⟩
  obtain ⟨x, H1, I1, rx, a, dx, fs, rfl, ea, l, z⟩ := z
  cases (show u = Value.ref a from rx)
  refine getmeth_ok I1 ea hc hm l (PySem.W.callWith_K (first := [.ref a]) (h₀ := X.base) I.ok.mod.kin hm.kp (thn (ha.run pos pins s1 st H1 _ I1 z) ?_) hst hpl)
  rintro us s2 ⟨vs, H2, I2, r, z⟩
  exact ⟨I2.kIn, run_g (us := .ref a :: us) (vs := .ref a :: vs) F hr.low hb hv tk I2 (.cons rfl r) z⟩
theorem qe_meth0 (F : FM X.prog X.w X.kw X.mg X.base k c m dl g) (hr : RoomG (k + 1) X.A) (tk : Takes X W) (ho : QE X W o fo)
    (ht : eval (.Call (.Attribute o m apos) [] [] pos) X.env = (do
      let ov ← eval o X.env
      standAt apos.atName
      let (f, first) ← holding [ov] (getMethod ov m pl)
      callWith pos f first (backTo pos (starEach [] X.env)) (backToKw pos (keywordEach [] X.env))) := by rfl) : QE X W (.Call (.Attribute o m apos) [] [] pos) (eMeth c m dl g fo aNil) := by
  obtain ⟨f, fd, ps, ds, dvs, F, hc, hm, hb, hv, hd⟩ := F
  refine ⟨fun pins s st H Q I q => PySem.W.methodCall_KW (pl := pl) (thn (ho.run pins s st H _ I (rd_meth hd q)) fun u s1 z => ?_) ht⟩
  obtain ⟨x, H1, I1, rx, a, dx, fs, rfl, ea, l, z⟩ := z
  cases (show u = Value.ref a from rx)
  have z' : spD X.kw g (.ref a :: ([] ++ dvs)) H1 Q (fun c d H' => W c d st H') := by
    obtain ⟨L0, io0, H0, L, io, e, S, fr, z⟩ := z
    exact z [] H1 L io (Stp.refl ..) fr.st .nil
  exact getmeth_ok I1 ea hc hm l (PySem.W.callWith_K0 (first := [.ref a]) I1.kIn hm.kp (run_g (us := [.ref a]) (vs := [.ref a]) F hr.low hb hv tk I1 (.cons rfl .nil) z'))
end
mutual
def noH : Dv → Bool
  | .tup l => noHs l
  | .lst l => noHs l
  | .rol l => noHs l
  | .dic l => noHp l
  | .obj _ fs => noHf fs
  | .ext _ _ _ l => noHs l
  | .hdl _ => false
  | _ => true
def noHs : List Dv → Bool
  | [] => true
  | d :: l => noH d && noHs l
def noHp : List (Key × Dv) → Bool
  | [] => true
  | (_, d) :: l => noH d && noHp l
def noHf : List (Str × Dv) → Bool
  | [] => true
  | (_, d) :: l => noH d && noHf l
end
section
variable {K : Kw} {L L' : Addr → Prop} {io io' : List Addr} {H H' : Hp}
theorem VR.noh (hl : ∀ a o, H a = some o → ¬ L a → H' a = some o ∧ ¬ L' a) : ∀ {v : V} {d : Dv}, VR K L io H v d → noH d = true → VR K L' io' H' v d := by
  intro v d h
  refine VR.rec (motive_1 := fun v d _ => noH d = true → VR K L' io' H' v d) (motive_2 := fun vs ds _ => noHs ds = true → VRs K L' io' H' vs ds) (motive_3 := fun vs ds _ => noHp ds = true → VRp K L' io' H' vs ds) (motive_4 := fun vs ds _ => noHf ds = true → VRf K L' io' H' vs ds) ?_ ?_ ?_ ?_ ?_ ?_ ?_ ?_ ?_ ?_ ?_ ?_ ?_ ?_ ?_ ?_ ?_ ?_ ?_ ?_ ?_ h
  · exact fun _ => .non
  · exact fun b _ => .bl b
  · exact fun i _ => .int i
  · exact fun x _ => .str x
  · intro a xs ds nl e _ ih n
    exact .tup (hl a _ e nl).2 (hl a _ e nl).1 (ih (by simpa [noH] using n))
  · exact fun h _ ih n => .tupK h (ih (by simpa [noH] using n))
  · intro a xs ds nl e _ ih n
    exact .lst (hl a _ e nl).2 (hl a _ e nl).1 (ih (by simpa [noH] using n))
  · intro a xs ds nl r _ ih n
    obtain ⟨o, e⟩ := rd_some r
    exact .rol (hl a o e nl).2 (rd_keep r fun o e => (hl a o e nl).1) (ih (by simpa [noH] using n))
  · exact fun h _ ih n => .rolK h (ih (by simpa [noH] using n))
  · intro a xs ds nl r _ ih n
    obtain ⟨o, e⟩ := rd_some r
    exact .dic (hl a o e nl).2 (rd_keep r fun o e => (hl a o e nl).1) (ih (by simpa [noH] using n))
  · intro a dx c vs fs nl e _ ih n
    exact .obj (hl a _ e nl).2 (hl a _ e nl).1 (ih (by simpa [noH] using n))
  · exact fun h n => by simp [noH] at n
  · exact fun x _ => .glo x
  · exact fun n _ => .ty n
  · intro a t c ns vs ds os h0 hk ho _ ih n
    exact .ext h0 hk (fun p hp => ⟨(hl _ _ (ho p hp).2 (ho p hp).1).2, (hl _ _ (ho p hp).2 (ho p hp).1).1⟩) (ih (by simpa [noH] using n))
  · exact fun _ => .nil
  · exact fun _ _ h1 h2 n => by
      simp only [noHs, Bool.and_eq_true] at n
      exact .cons (h1 n.1) (h2 n.2)
  · exact fun _ => .nil
  · exact fun _ _ h1 h2 n => by
      simp only [noHp, Bool.and_eq_true] at n
      exact .cons (h1 n.1) (h2 n.2)
  · exact fun _ => .nil
  · exact fun _ _ h1 h2 n => by
      simp only [noHf, Bool.and_eq_true] at n
      exact .cons (h1 n.1) (h2 n.2)
theorem VRs.noh (hl : ∀ a o, H a = some o → ¬ L a → H' a = some o ∧ ¬ L' a) : ∀ {vs : List V} {ds : List Dv}, VRs K L io H vs ds → noHs ds = true → VRs K L' io' H' vs ds
  | _, _, .nil, _ => .nil
  | _, _, .cons h t, n => by
    simp only [noHs, Bool.and_eq_true] at n
    exact .cons (VR.noh hl h n.1) (VRs.noh hl t n.2)
theorem PairR.noh (hl : ∀ a o, H a = some o → ¬ L a → H' a = some o ∧ ¬ L' a) : ∀ {vs : List (Str × V)} {ds : List (Str × Dv)}, PairR (VR K L io H) vs ds → noHf ds = true → PairR (VR K L' io' H') vs ds
  | [], _, .nil, _ => .nil
  | _ :: _, (_, _) :: _, .cons ⟨h1, h2⟩ t, n => by
    simp only [noHf, Bool.and_eq_true] at n
    exact .cons ⟨h1, VR.noh hl h2 n.1⟩ (PairR.noh hl t n.2)
end
/-- the class c can be made: __init__ answers as g (the new instance first) -/
def FK (P : Program) (w : World) (K : Kw) (mg : Str → Option Value) (base : Heap) (k : Nat) (c : Str) (dl : List Dv) (g : DF) : Prop :=
  ∃ (f : Addr) (fd : FuncData) (ps : List Str) (ds : List Value) (dvs : List V), FnG P w K mg base k f fd ps (spD K g) ∧ mg c = some (.ref (He.ga K c)) ∧ Mk K (He.ga K c) f ∧ Binds K fd ps ds ∧ Vals dvs ds ∧ ∀ L io H, VRs K L io H dvs dl
def kMkE (c : Str) (S : Sto) : Res Dv → Res Dv
  | .ok .non (.ins c' fs :: _) => if c' = c ∧ noHf fs = true then .ok (.obj c fs) S else .no
  | .ex x fs (_ :: _) => if noHf fs = true then .ex x fs S else .no
  | _ => .no
def kMk (c : Str) (g : DF) (as : List Dv) (S : Sto) : Res Dv := if noHs as = true then kMkE c S (g [.ins c []] (.hdl 0 :: as)) else .no
/-- C(..), a frozen instance: made apart from the store -/
def eMk (c : Str) (dl : List Dv) (g : DF) (fa : DA) : DE := fun e S => bnd (fa e S) fun as S1 => kMk c g (as ++ dl) S1
/-- C(..), an instance that is a handle -/
def kMkH (c : Str) (g : DF) (as : List Dv) (S : Sto) : Res Dv := bnd (g (S ++ [.ins c []]) (.hdl S.length :: as)) fun d S' => match d with
  | .non => .ok (.hdl S.length) S'
  | _ => .no
def eMkH (c : Str) (dl : List Dv) (g : DF) (fa : DA) : DE := fun e S => bnd (fa e S) fun as S1 => kMkH c g (as ++ dl) S1
theorem mkH_spD {K : Kw} {W : WX} {c : Str} {g : DF} {st : St} {L : Addr → Prop} {io : List Addr} {H : Hp} {S : Sto} {vs : List V} {l : List Dv} {Q : VK} (sr : SR K L io H S) (r : VRs K L io H vs l) (q : Fin K W (VR K) st L io H Q (kMkH c g l S)) {x dx : Addr} (hx : H x = none) (hdx : H dx = none) (hn : dx ≠ x) :
    spD K g (.ref x :: vs) (upd (upd H dx (.own x)) x (.ins (He.ga K c) dx [])) (fun v H2 => v = .non ∧ Q (.ref x) H2) (fun c d H' => W c d st H') := by
  have sr1 : SR K L io (upd H dx (.own x)) S := sr.alloc hdx
  have hx1 : upd H dx (.own x) x = none := by rw [upd_ne hn.symm]; exact hx
  have sr2 : SR K (Ly L x) io (upd (upd H dx (.own x)) x (.ins (He.ga K c) dx [])) S := sr1.newV hx1
  have xn : x ∉ io := fun z => sr.dom x (sr.sub x z) hx
  have sr3 := sr2.addO (p := x) (ob := .ins c []) (.inr rfl) xn ⟨dx, [], upd_same, .nil⟩
  have keep : ∀ a o, H a = some o → (upd (upd H dx (.own x)) x (.ins (He.ga K c) dx [])) a = some o := fun a o e => by
    rw [upd_ne (ne_of_none e hx), upd_ne (ne_of_none e hdx)]; exact e
  have st0 : Stp L io H (Ly L x) (io ++ [x]) (upd (upd H dx (.own x)) x (.ins (He.ga K c) dx [])) :=
    ⟨⟨[x], rfl⟩, fun y hy => by
      rcases List.mem_append.mp hy with z | z
      · exact .inl z
      · simp at z; subst z; exact .inr hx, fun a z => z.elim .inl fun z => .inr (by rw [z]; exact hx), fun a o e _ => keep a o e, fun _ h => .inl h⟩
  have rx : ∀ {L' io' H'}, Stp (Ly L x) (io ++ [x]) (upd (upd H dx (.own x)) x (.ins (He.ga K c) dx [])) L' io' H' → VR K L' io' H' (.ref x) (.hdl S.length) := fun s => by
    obtain ⟨m, rfl⟩ := s.pre
    refine .hdl ?_
    rw [← sr.len]
    simp
  refine ⟨Ly L x, io ++ [x], S ++ [.ins c []], .hdl S.length :: l, sr3, .cons (rx (Stp.refl ..)) (r.step st0 sr.sub), ?_⟩
  unfold kMkH at q
  cases hg : g (S ++ [.ins c []]) (.hdl S.length :: l) with
  | no => rw [hg] at q; exact q
  | ex c' fs S' =>
    rw [hg] at q
    exact fun xo H' io' s' sr' rx => q xo H' _ io' (st0.trans s' sr.sub) sr' rx
  | ok d S' =>
    rw [hg] at q
    intro v H' io' s' sr' rv
    cases rv with
    | non => exact ⟨rfl, q (.ref x) H' _ io' (st0.trans s' sr.sub) sr' (rx s')⟩
    | _ => exact q.elim
theorem make_guards {A : Around} {C : Addr} {us : List Value} {kw : List (Str × Value)} : (A.under (.builtin "type.__call__" ⟨.ref C :: us, kw⟩)).guards = A.guards := by
  first
    | rfl
    | (simp [Around.under, Code.guards, pushGuards, Code.isGuard, guardIds])
theorem RoomG.make {k : Nat} {A : Around} (h : RoomG (k + 1) A) (C : Addr) (us : List Value) (kw : List (Str × Value)) : RoomG k (A.under (.builtin "type.__call__" ⟨.ref C :: us, kw⟩)) := ⟨h.r.make C us kw, make_guards.trans h.g⟩
section
variable {X : Cx} {W : WX} {p pos : Pos} {e : Expr} {es : List Expr} {c : Str} {fa : DA} {dl : List Dv} {g : DF} {k : Nat}
/-- C(..) runs: the new instance, then its __init__ -/
theorem run_mk {C f : Addr} {fd : FuncData} {ps : List Str} {sp : Sp} {dvs : List V} {ds : List Value} {pins : List (Addr × Obj)} {st : St} {H : Hp} {s : Shared} {Q : VK} {us : List Value} {vs : List V} (M : Mk X.kw C f) (F : FnG X.prog X.w X.kw X.mg X.base k f fd ps sp) (hr : RoomG (k + 1) X.A) (hb : Binds X.kw fd ps ds) (hd : Vals dvs ds) (tk : Takes X W)
    (I : Inv X pins st H s) (r : Vals vs us)
    (h : ∀ x dx, H x = none → H dx = none → dx ≠ x → sp (.ref x :: (vs ++ dvs)) (upd (upd H dx (.own x)) x (.ins C dx [])) (fun v H2 => v = .non ∧ Q (.ref x) H2) (fun c d H' => W c d st H')) :
    wpAny (model X.prog X.w) X.A (call (.ref C) us) (EP X pins st Q) X.xe s := by
  have n1 := s.heap.objs.size
  have z := h (s.heap.objs.size + 1) s.heap.objs.size (I.hok.fresh (Nat.le_succ _)) (I.hok.fresh (Nat.le_refl _)) (Nat.ne_of_lt (Nat.lt_succ_self _))
  have J := Inv.made (C := C) I
  have r2 : Vals (V.ref (s.heap.objs.size + 1) :: (vs ++ dvs)) (Value.ref (s.heap.objs.size + 1) :: (us ++ ds)) := .cons rfl (r.append hd)
  have hl := (F.len _ _ _ _ z).symm.trans r2.length
  refine wpAny_call (make_map (f := f) I.kIn M.makes M.init (beq_iff_eq.mp M.fn) (codeAny_mono (F.run _ X.stack _ _ ⟨_, []⟩ _ _ _ _ (hr.make C us []) (J.env0.make C us []) (hb _ (Value.ref (s.heap.objs.size + 1) :: us) J.kIn hl.symm) r2 z) fun rr s' q => ?_))
  match rr, q with
  | .error e, q => exact tk e s' (XE.of_call J (fun _ _ _ q => q) q)
  | .ok .next, q => exact q.elim
  | .ok .brk, q => exact q.elim
  | .ok .cont, q => exact q.elim
  | .ok (.ret u), q =>
    obtain ⟨v, H', I3, rv, ev, q3⟩ := J.after q
    subst ev
    exact ⟨rv, V.ref (s.heap.objs.size + 1), H', I3, rfl, q3⟩
theorem qe_mkA {kk : List Dv → Sto → Res Dv} (hk : ∀ {st : St} {L : Addr → Prop} {io : List Addr} {H : Hp} {S : Sto} {vs : List V} {l : List Dv} {Q : VK}, SR X.kw L io H S → VRs X.kw L io H vs l → Fin X.kw W (VR X.kw) st L io H Q (kk l S) → ∀ {x dx : Addr}, H x = none → H dx = none → dx ≠ x →
      spD X.kw g (.ref x :: vs) (upd (upd H dx (.own x)) x (.ins (He.ga X.kw c) dx [])) (fun v H2 => v = .non ∧ Q (.ref x) H2) (fun c d H' => W c d st H')) (F : FK X.prog X.w X.kw X.mg X.base k c dl g) (hr : RoomG (k + 1) X.A) (tk : Takes X W) (ha : QA X W (e :: es) fa) (hg : Gl X c) (hdb : (c == ("__debug__" : Str)) = false)
    (he : starEach (e :: es) X.env = (false, eval e X.env) :: starEach es X.env) (hpl : (backTo pos (starEach es X.env)).any (·.1) = false) : QE X W (.Call (.Name c p) (e :: es) [] pos) (fun e S => bnd (fa e S) fun as S1 => kk (as ++ dl) S1) := by
  obtain ⟨f, fd, ps, ds, dvs, F, hm, M, hb, hv, hd⟩ := F
  refine ⟨fun pins s st H Q I q => wpAny_Call_Name_kw (ld_glob I hg hm ?_ hdb)⟩
  refine PySem.W.callWith_K (h₀ := X.base) I.ok.mod.kin M.kp (thn (ha.run pos pins s st H _ I ?_) fun us s1 ⟨vs, H1, I1, r, q⟩ => ⟨I1.kIn, run_mk (Q := Q) M F hr hb hv tk I1 r q⟩) he hpl
  exact Rdg.bind (R := VRs X.kw) (k := fun _ as S1 => kk (as ++ dl) S1) q fun L0 io0 H0 L io H1 e S as vs fr rv q x dx hx hdx hn => hk fr.st (rv.app (hd _ _ _)) q hx hdx hn
theorem qe_mkH (F : FK X.prog X.w X.kw X.mg X.base k c dl g) (hr : RoomG (k + 1) X.A) (tk : Takes X W) (ha : QA X W (e :: es) fa) (hg : Gl X c := by rfl) (hdb : (c == ("__debug__" : Str)) = false := by decide)
    (he : starEach (e :: es) X.env = (false, eval e X.env) :: starEach es X.env := by rfl) (hpl : (backTo pos (starEach es X.env)).any (·.1) = false := by rfl) : QE X W (.Call (.Name c p) (e :: es) [] pos) (eMkH c dl g fa) := qe_mkA mkH_spD F hr tk ha hg hdb he hpl
end
end DL
namespace DL
open PySem L2
structure Dfn where
  ad : PySem.W.Frag → Addr
  name : Str
  qual : Str
  params : Arguments
  body : List Stmt
  scope : Scope
  dfl : List He.Dv := []
  kwd : List (Str × He.Dv) := []
def fnA (K : PySem.W.Frag) (a : Addr) : He.FnW := match K.lookup a with
  | some ⟨_, _, .func fd, _⟩ => some (fd.name, fd.qualname, fd.params, fd.body, fd.scope, fd.globals, fd.closure, fd.builtins)
  | _ => none
def Dfn.val (d : Dfn) : He.FnW := some (d.name, d.qual, d.params, .stmts d.body, d.scope, mainGlobals, [], builtinsNs)
def Dfn.dvs (K : PySem.W.Frag) (d : Dfn) : List V := d.dfl.map (He.Dv.v K)
def Dfn.kws (K : PySem.W.Frag) (d : Dfn) : List (Str × V) := d.kwd.map fun q => (q.1, q.2.v K)
def Dfn.ok (K : PySem.W.Frag) (d : Dfn) : Bool := PySem.W.keepIn K (.ref (d.ad K)) && (match K.lookup (d.ad K) with
  | some ⟨_, _, .func fd, _⟩ => PySem.W.codeIn K fd.code d.qual && (He.dflB K fd.defaults (d.dvs K) && He.kwdB K fd.kwdefaults (d.kws K))
  | _ => false)
theorem Dfn.funD {K : PySem.W.Frag} {d : Dfn} (e : fnA K (d.ad K) = d.val) (c : d.ok K = true) : ∃ fd, FunD K d.name d.qual d.params d.body d.scope (d.dvs K) (d.kws K) (d.ad K) fd := by
  obtain ⟨kp, c2⟩ := He.ba c
  unfold fnA at e
  cases q : K.lookup (d.ad K) with
  | none =>
    rw [q] at c2
    cases c2
  | some o =>
    obtain ⟨oc, od, dt, osl⟩ := o
    rw [q] at c2 e
    cases dt with
    | func fd =>
      obtain ⟨n1, n2, n3, n4, n5, n6, n7, n8, n9, n10, n11, n12, n13, n14, n15⟩ := fd
      have e2 : (some (n1, n2, n3, n4, n5, n6, n7, n15) : He.FnW) = some (d.name, d.qual, d.params, .stmts d.body, d.scope, mainGlobals, [], builtinsNs) := e
      simp only [Option.some.injEq, Prod.mk.injEq] at e2
      obtain ⟨h1, h2, h3, h4, h5, h6, h7, h8⟩ := e2
      subst h1 h2 h3 h4 h5 h6 h7 h8
      have c3 : (PySem.W.codeIn K n13 d.qual && (He.dflB K n8 (d.dvs K) && He.kwdB K n9 (d.kws K))) = true := c2
      obtain ⟨k1, k2⟩ := He.ba c3
      obtain ⟨k3, k4⟩ := He.ba k2
      exact ⟨_, ⟨oc, od, n8, n9, n10, n11, n12, n13, n14, osl, rfl, q, k1, He.dflB_ok k3, He.kwdB_ok k4⟩, kp⟩
    | _ => cases c2
abbrev AlN : Type := (Bool × List He.FnW) × List (Option (List (Option (Str × Int))))
def obsN (fa : List Ft) (fn : List Dfn) (ts : List He.Tab) (K : PySem.W.Frag) : AlN := (((fa.all fun f => f.ok K) && fn.all fun d => d.ok K, fn.map fun d => fnA K (d.ad K)), ts.map fun t => He.dicW K (t.1 K))
def valN (fn : List Dfn) (ts : List He.Tab) (w : World) : AlN := ((true, fn.map Dfn.val), ts.map fun t => some (He.keysIn w.params t.2))
def SaysN (fa : List Ft) (fn : List Dfn) (ts : List He.Tab) (w : World) (K : PySem.W.Frag) : Prop := obsN fa fn ts K = valN fn ts w
section
variable {fa : List Ft} {fn : List Dfn} {ts : List He.Tab} {w : World} {K : PySem.W.Frag}
theorem SaysN.fact (c : SaysN fa fn ts w K) (i : Nat) {f : Ft} (h : fa[i]? = some f := by rfl) : f.ok K = true := by
  have c1 := (He.ba (show ((fa.all fun f => f.ok K) && fn.all fun d => d.ok K) = true from congrArg (fun z : AlN => z.1.1) c)).1
  exact List.all_eq_true.mp c1 f (List.mem_of_getElem? h)
theorem SaysN.def_ (c : SaysN fa fn ts w K) (i : Nat) {d : Dfn} (h : fn[i]? = some d := by rfl) : ∃ fd, FunD K d.name d.qual d.params d.body d.scope (d.dvs K) (d.kws K) (d.ad K) fd := by
  have c2 := (He.ba (show ((fa.all fun f => f.ok K) && fn.all fun d => d.ok K) = true from congrArg (fun z : AlN => z.1.1) c)).2
  have e : fn.map (fun d => fnA K (d.ad K)) = fn.map Dfn.val := congrArg (fun z : AlN => z.1.2) c
  have e2 : (fn.map fun d => fnA K (d.ad K))[i]? = (fn.map Dfn.val)[i]? := by rw [e]
  rw [List.getElem?_map, List.getElem?_map, h] at e2
  exact Dfn.funD (Option.some.inj e2) (List.all_eq_true.mp c2 d (List.mem_of_getElem? h))
end
/-- the head's facts of classes -/
def faB (f : He.Fa) : Ft := .any fun K => f.ok K
theorem cls_f {K : PySem.W.Frag} {x : Str} (c : (faB (.cls x)).ok K = true) : Cls K (He.ga K x) := He.cls_ok c
theorem noat_f {K : PySem.W.Frag} {x f : Str} (c : (faB (.noat x f)).ok K = true) : NoAttr K (He.ga K x) f := He.noat_ok c
theorem meth_f {K : PySem.W.Frag} {x f : Str} (c : (faB (.meth x f)).ok K = true) : Meth K (He.ga K x) f (He.ma K (He.ga K x) f) := He.meth_ok c
theorem mkr_f {K : PySem.W.Frag} {x : Str} (c : (faB (.mkr x)).ok K = true) : Mk K (He.ga K x) (He.ma K (He.ga K x) "__init__") := He.mkr_ok c
end DL
namespace DL
open PySem L2
def dnA : Nat → List Addr
  | 0 => [0]
  | n + 1 => (n + 1) :: dnA n
def adA (m : Nat) : List Addr := 3 :: 2 :: dnA m
def obsNA (m : Nat) (fa : List Ft) (fn : List Dfn) (ts : List He.Tab) (g : Addr → Option Obj) : AlN := obsN fa fn ts (He.frG g (adA m))
def hookA (m : Nat) (fa : List Ft) (fn : List Dfn) (ts : List He.Tab) : PySem.W.Hook where
  α := AlN
  obs := fun s => obsNA m fa fn ts s.heap.get?
  val := fun w => valN fn ts w
  says := fun w h => ∃ K : PySem.W.Frag, K.In h ∧ SaysN fa fn ts w K
  of := fun _ _ e => ⟨_, He.frG_in, e⟩
  keeps := fun _ _ _ ⟨K, hK, c⟩ k => ⟨K, PySem.W.Frag.In.keeps hK k, c⟩
theorem obsNA_eq {m : Nat} {fa : List Ft} {fn : List Dfn} {ts : List He.Tab} {g : Addr → Option Obj} {s : Shared} (h : ∀ a, g a = s.heap.get? a) : obsNA m fa fn ts g = (hookA m fa fn ts).obs s := by
  have e : g = s.heap.get? := funext h
  rw [e] <;> rfl
end DL
namespace DL
open PySem PySem.Spec PyProof.Rows L2
def tabD (l : List (Str × Dv)) (d : Dv) (S : Sto) : Res Dv := match d with
  | .str z => (match l.lookup z with
    | some x => .ok x S
    | none => .no)
  | _ => .no
def eTab (l : List (Str × Dv)) (fi : DE) : DE := fun e S => bnd (fi e S) (tabD l)
def revD (d : Dv) (S : Sto) : Res Dv := match d with
  | .tup l => .ok (.tup l.reverse) S
  | _ => .no
def eRevT (f : DE) : DE := fun e S => bnd (f e S) revD
def idxS (z : Str) : List Dv → Option Nat
  | [] => none
  | .str y :: l => if y = z then some 0 else (idxS z l).map (· + 1)
  | _ => none
def allS : List Dv → Bool
  | [] => true
  | .str _ :: l => allS l
  | _ => false
def tixE (l : List Dv) (x : Dv) (S : Sto) : Res Dv := match x with
  | .str z => if allS l then (match idxS z l with
    | some n => .ok (.int (n : Nat)) S
    | none => .no) else .no
  | _ => .no
end DL
namespace DL
open PySem PySem.Spec PyProof.Rows L2
def eCm (c : Str) (g : DF) (fa : DA) : DE := fun e S => bnd (fa e S) fun l S1 => g S1 (.glo c :: l)
/-- the class c can be made, __init__ answers as g; B: how its arguments are bound -/
def FI (P : Program) (w : World) (K : Kw) (mg : Str → Option Value) (base : Heap) (k : Nat) (c : Str) (B : Kw → Addr → FuncData → List Str → Prop) (g : DF) : Prop :=
  ∃ (f : Addr) (fd : FuncData) (ps : List Str), FnG P w K mg base k f fd ps (spD K g) ∧ mg c = some (.ref (He.ga K c)) ∧ Mk K (He.ga K c) f ∧ B K f fd ps
/-- .. values alone: dl, the data behind them -/
def PoB (K : Kw) (B : Kw → Addr → FuncData → List Str → Prop) (dl : List Dv) : Prop :=
  ∀ f fd ps, B K f fd ps → ∃ (ds : List Value) (dvs : List V), Binds K fd ps ds ∧ Vals dvs ds ∧ ∀ L io H, VRs K L io H dvs dl
theorem FI.fk {P : Program} {K : Kw} {mg : Str → Option Value} {base : Heap} {k : Nat} {c : Str} {B : Kw → Addr → FuncData → List Str → Prop} {g : DF} {dl : List Dv} (F : FI P K.w K mg base k c B g) (b : PoB K B dl) : FK P K.w K mg base k c dl g := by
  obtain ⟨f, fd, ps, F, hm, M, hB⟩ := F
  obtain ⟨ds, dvs, h1, h2, h3⟩ := b f fd ps hB
  exact ⟨f, fd, ps, ds, dvs, F, hm, M, h1, h2, h3⟩
section
variable {P : Program} {w : World} {K : Kw} {mg : Str → Option Value} {base : Heap} {c m qual : Str} {st : Stmt} {N ps : List Str} {k np n : Nat} {fb : DS}
/-- a def's binding of values alone, no defaults -/
abbrev BindN (m qual : Str) (st : Stmt) (ps : List Str) : Prop := ∀ (kV doc pm : Value) (an : Option Addr) (cdv ct : Value) (us : List Value), us.length = ps.length → bindArgs (PySem.W.fnOf m qual (defArgs st) (defBody st) (defScope st) .none kV doc pm an cdv ct) ⟨us, []⟩ = pure (ps.zip us)
theorem fm_mk {kws : List (Str × V)} (F : ∃ fd, FunD K m qual (defArgs st) (defBody st) (defScope st) [] kws (He.ma K (He.ga K c) m) fd) (hc : Cls K (He.ga K c)) (hm : Meth K (He.ga K c) m (He.ma K (He.ga K c) m)) (Sc : FnScope N ps (defScope st)) (hbi : BindN m qual st ps)
    (hnp : ps.length = np) (hn : N.length = n) (hb : BodyG P K.w K mg base N qual (defScope st) (He.ma K (He.ga K c) m) (k + 1) (defBody st) fb) : FM P K.w K mg base (k + 2) c m [] (runF np n fb) := by
  subst hnp hn
  obtain ⟨fd, F⟩ := F
  exact ⟨_, fd, ps, [], [], fn_mk F Sc hb, hc, hm, F.bindsN hbi, .nil, fun _ _ _ => .nil⟩
theorem fm_no {kws : List (Str × V)} (F : ∃ fd, FunD K m qual (defArgs st) (defBody st) (defScope st) [] kws (He.ma K (He.ga K c) m) fd) (hc : Cls K (He.ga K c)) (hm : Meth K (He.ga K c) m (He.ma K (He.ga K c) m)) (hbi : BindN m qual st ps) : FM P K.w K mg base k c m [] gNo := by
  obtain ⟨fd, F⟩ := F
  exact ⟨_, fd, ps, [], [], FnG.never spD_no, hc, hm, F.bindsN hbi, .nil, fun _ _ _ => .nil⟩
/-- __init__ as the text says it -/
def InB (qual : Str) (st : Stmt) (ps : List Str) (dvs : Kw → List V) (kws : Kw → List (Str × V)) : Kw → Addr → FuncData → List Str → Prop := fun K f fd ps' => ps' = ps ∧ FunD K "__init__" qual (defArgs st) (defBody st) (defScope st) (dvs K) (kws K) f fd
theorem fi_mk {dvs : Kw → List V} {kws : Kw → List (Str × V)} (F : ∃ fd, FunD K "__init__" qual (defArgs st) (defBody st) (defScope st) (dvs K) (kws K) (He.ma K (He.ga K c) "__init__") fd) (hm : mg c = some (.ref (He.ga K c))) (M : Mk K (He.ga K c) (He.ma K (He.ga K c) "__init__")) (Sc : FnScope N ps (defScope st))
    (hnp : ps.length = np) (hn : N.length = n) (hb : BodyG P K.w K mg base N qual (defScope st) (He.ma K (He.ga K c) "__init__") (k + 1) (defBody st) fb) : FI P K.w K mg base (k + 2) c (InB qual st ps dvs kws) (runF np n fb) := by
  subst hnp hn
  obtain ⟨fd, F⟩ := F
  exact ⟨_, fd, ps, fn_mk F Sc hb, hm, M, rfl, F⟩
theorem fi_no {dvs : Kw → List V} {kws : Kw → List (Str × V)} (F : ∃ fd, FunD K "__init__" qual (defArgs st) (defBody st) (defScope st) (dvs K) (kws K) (He.ma K (He.ga K c) "__init__") fd) (hm : mg c = some (.ref (He.ga K c))) (M : Mk K (He.ga K c) (He.ma K (He.ga K c) "__init__")) :
    FI P K.w K mg base k c (InB qual st ps dvs kws) gNo := by
  obtain ⟨fd, F⟩ := F
  exact ⟨_, fd, ps, FnG.never spD_no, hm, M, rfl, F⟩
end
end DL
namespace DL
open PySem PySem.Spec PyProof.Rows L2
section
variable {K : Kw} {L : Addr → Prop} {io : List Addr} {H : Hp}
/-- a list or tuple that no handle holds -/
def asSq : Dv → Option (Bool × List Dv)
  | .lst l => some (true, l)
  | .rol l => some (true, l)
  | .tup l => some (false, l)
  | _ => none
def enumD (l : List Dv) : List Dv := l.mapIdx fun i d => .tup [.int (i : Nat), d]
def zipD (l m : List Dv) : List Dv := (l.zip m).map fun q => .tup [q.1, q.2]
end
def enumR : List Dv → Sto → Res (List Dv)
  | [d], S => match asSq d with
    | some (_, l) => .ok (enumD l) S
    | none => .no
  | _, _ => .no
def zipR : List Dv → Sto → Res (List Dv)
  | [d, d2], S => match asSq d, asSq d2 with
    | some (_, l), some (_, m) => .ok (zipD l m) S
    | _, _ => .no
  | _, _ => .no
def iEnum' (fa : DA) : DL := fun e S => bnd (fa e S) enumR
def iZip' (fa : DA) : DL := fun e S => bnd (fa e S) zipR
end DL
namespace DL
open PySem L2
end DL
namespace DL
open PySem L2
def eChn (h h' : Sto → Dv → Dv → Option (Dv × Sto)) (f1 f2 f3 : DE) : DE := fun e S => bnd (f1 e S) fun a S1 => bnd (f2 e S1) fun b S2 => bnd (ofO (h S2 a b)) fun z S3 => match z with
  | .bl true => bnd (f3 e S3) fun c S4 => ofO (h' S4 b c)
  | .bl false => .ok (.bl false) S3
  | _ => .no
def rngK (neg : Bool) (a : Dv) (l : List Dv) (S : Sto) : Res Dv := match a, l with
  | .int i, [.int lo, .int hi] => .ok (.bl (if neg then !decide (lo ≤ i ∧ i < hi) else decide (lo ≤ i ∧ i < hi))) S
  | _, _ => .no
def eRngIn (neg : Bool) (f1 : DE) (fa : DA) : DE := fun e S => bnd (f1 e S) fun a S1 => bnd (fa e S1) fun l S2 => rngK neg a l S2
/-- data as a whole, dicts too -/
def keyP : Key → PyData
  | .inl i => .int i
  | .inr x => .str x
mutual
inductive Dq (K : Kw) (H : Hp) : V → PyData → Prop
  | non : Dq K H .non .none
  | bl (b : Bool) : Dq K H (.bl b) (.bool b)
  | int (i : Int) : Dq K H (.int i) (.int i)
  | str (x : Str) : Dq K H (.str x) (.str x)
  | lst {a : Addr} {xs : List V} {ds : List PyData} : SqL K H a xs → DqAll K H xs ds → Dq K H (.ref a) (.list ds)
  | tup {a : Addr} {xs : List V} {ds : List PyData} : SqT K H a xs → DqAll K H xs ds → Dq K H (.ref a) (.tuple ds)
  | dct {a : Addr} {kvs : List (Key × V)} {ds : List PyData} : Rd H a (.dK kvs) → DqAll K H (kvs.map (·.2)) ds → Dq K H (.ref a) (.dict ((kvs.map fun q => keyP q.1).zip ds))
inductive DqAll (K : Kw) (H : Hp) : List V → List PyData → Prop
  | nil : DqAll K H [] []
  | cons {v : V} {vs : List V} {d : PyData} {ds : List PyData} : Dq K H v d → DqAll K H vs ds → DqAll K H (v :: vs) (d :: ds)
end
theorem DqAll.len {K : Kw} {H : Hp} : ∀ {vs : List V} {ds : List PyData}, DqAll K H vs ds → vs.length = ds.length
  | _, _, .nil => rfl
  | _, _, .cons _ t => by rw [List.length_cons, List.length_cons, t.len]
end DL
namespace DL
open PySem L2
def NewO (K : Kw) (H : Hp) (L' : Addr → Prop) (io' : List Addr) (H' : Hp) (v : V) (o : Ob) : Prop := ∃ p, v = .ref p ∧ H p = none ∧ L' p ∧ p ∉ io' ∧ ObR K L' io' H' p o
abbrev DN := Env → Sto → Res Ob
def FinN (K : Kw) (W : WX) (g : St) (L : Addr → Prop) (io : List Addr) (H : Hp) (Q : V → Hp → Prop) : Res Ob → Prop
  | .ok d S' => ∀ (v : V) (H' : Hp) (L' : Addr → Prop) (io' : List Addr), Stp L io H L' io' H' → SR K L' io' H' S' → NewO K H L' io' H' v d → Q v H'
  | .ex c fs S' => ∀ (x : Option Addr) (H' : Hp) (L' : Addr → Prop) (io' : List Addr), Stp L io H L' io' H' → SR K L' io' H' S' → ExR K L' io' H' x fs → W (.ref (He.ga K c)) x g H'
  | .no => False
def rdN (K : Kw) (W : WX) (f : DN) : TE := fun g H Q => ∃ (L0 : Addr → Prop) (io0 : List Addr) (H0 : Hp) (L : Addr → Prop) (io : List Addr) (e : Env) (S : Sto), FR K L0 io0 H0 L io H g e S ∧ FinN K W g L io H Q (f e S)
abbrev QN (X : Cx) (W : WX) (e : Expr) (f : DN) : Prop := PE X e (rdN X.kw W f)
def nL (f : DL) : DN := fun e S => bnd (f e S) fun l S' => .ok (.lst l) S'
def nD (f : DD) : DN := fun e S => bnd (f e S) fun l S' => .ok (.dct l) S'
theorem qn_f {X : Cx} {W : WX} {a : Expr} {f : DL} (h : QF X W a f) : QN X W a (nL f) := pe_imp h fun g H Q q => by
  obtain ⟨L0, io0, H0, L, io, e, S, fr, q⟩ := q
  refine ⟨L0, io0, H0, L, io, e, S, fr, ?_⟩
  unfold nL at q
  cases hf : f e S with
  | ok l S' => rw [hf] at q; exact fun v H' L' io' s sr ⟨p, xs, hv, hp, lp, np, h1, h2⟩ => q v H' L' io' s sr ⟨p, hv, hp, lp, np, xs, h1, h2⟩
  | ex c fs S' => rw [hf] at q; exact q
  | no => rw [hf] at q; exact q
theorem qn_d {X : Cx} {W : WX} {a : Expr} {f : DD} (h : QD X W a f) : QN X W a (nD f) := pe_imp h fun g H Q q => by
  obtain ⟨L0, io0, H0, L, io, e, S, fr, q⟩ := q
  refine ⟨L0, io0, H0, L, io, e, S, fr, ?_⟩
  unfold nD at q
  cases hf : f e S with
  | ok l S' => rw [hf] at q; exact fun v H' L' io' s sr ⟨p, xs, hv, hp, lp, np, h1, h2⟩ => q v H' L' io' s sr ⟨p, hv, hp, lp, np, xs, h1, h2⟩
  | ex c fs S' => rw [hf] at q; exact q
  | no => rw [hf] at q; exact q
/-- frozen at once -/
def eFrzN (f : DN) : DE := fun e S => bnd (f e S) fun o S' => .ok (frzO o) S'
/-- a handle at once -/
def eHdlN (f : DN) : DE := fun e S => bnd (f e S) fun o S' => .ok (.hdl S'.length) (S' ++ [o])
theorem qe_hdlN {X : Cx} {W : WX} {a : Expr} {f : DN} (h : QN X W a f) : QE X W a (eHdlN f) := pe_imp h fun g H Q q => by
  obtain ⟨L0, io0, H0, L, io, e, S, fr, q⟩ := q
  refine ⟨L0, io0, H0, L, io, e, S, fr, ?_⟩
  have q : Fin X.kw W (VR X.kw) g L io H Q (bnd (f e S) fun o S' => .ok (.hdl S'.length) (S' ++ [o])) := q
  cases hf : f e S with
  | no => rw [hf] at q; exact q
  | ex c fs S' => rw [hf] at q; exact q
  | ok o S' =>
    rw [hf] at q
    rintro v H' L' io' s sr ⟨p, rfl, hp, lp, np, ob⟩
    refine q _ H' L' (io' ++ [p]) ⟨?_, fun x hx => ?_, s.new, s.keep, s.up⟩ (sr.addO lp np ob) (.hdl (by rw [← sr.len]; simp))
    · obtain ⟨m, rfl⟩ := s.pre
      exact ⟨m ++ [p], by simp⟩
    · rcases List.mem_append.mp hx with z | z
      · exact s.hn x z
      · simp at z; subst z; exact .inr hp
theorem FR.setN' {K : Kw} {L0 L L1 : Addr → Prop} {io0 io io1 : List Addr} {H0 H H1 : Hp} {g : St} {e : Env} {S S1 : Sto} (fr : FR K L0 io0 H0 L io H g e S) (s : Stp L io H L1 io1 H1) (sr : SR K L1 io1 H1 S1) {v : V} {o : Ob} (n : NewO K H L1 io1 H1 v o) (i : Nat) :
    FR K L0 io0 H0 L1 io1 H1 (g.set i (some v)) (e.set i (.own o)) S1 := by
  obtain ⟨p, rfl, hp, lp, np, ob⟩ := n
  refine (fr.step s sr).setS i (fun d h => by cases h) (fun l' h => ?_) fun q _ _ hq j hj v1 v2 hg => ?_
  · cases h; exact ⟨p, rfl, lp, np, fr.fresh0 hp, ob⟩
  · cases hq
    by_cases hn : e[j]? = none
    · have := List.getElem?_eq_none_iff.mp hn
      rw [← fr.len] at this
      rw [List.getElem?_eq_none_iff.mpr this] at hg
      cases hg
    · obtain ⟨o, ho, _⟩ := fr.ownAt v1 v2 hn hg
      rw [hp] at ho; cases ho
def sOwnN (i : Nat) (f : DN) : DS := sBind f fun e o S => .nx (e.set i (.own o)) S
section
variable {X : Cx} {W : WX} {pos : Pos} {a b c : Expr} {x y z : Str}
theorem qs_ownN (hN : X.N.Nodup) (i : Nat) {pos' : Pos} {f : DN} (h : QN X W a f) (hi : X.N[i]? = some x := by rfl) (hx : Loc X.env.scope x := by first | exact Or.inl rfl | exact Or.inr rfl) (hs : swapsWith a (some (.Name x pos')) pos.line X.env = pure false := by rfl) (hf : X.fn x = true ∨ X.env.scope.names.lookup x = some .local := by first | exact .inl rfl | exact .inr rfl) :
    QS X W (.Assign [.Name x pos'] a pos) (sOwnN i f) := ps_imp (ps_set hN hi hx h hs hf) fun D g H h => by
  obtain ⟨L0, io0, H0, L, io, e, S, fr, h⟩ := h
  refine ⟨L0, io0, H0, L, io, e, S, fr, ?_⟩
  unfold sOwnN sBind at h
  cases hf : f e S with
  | ok o S1 =>
    rw [hf] at h
    intro v H1 L1 io1 s1 sr1 r1
    exact h _ H1 L1 io1 (s1.stw fr.st.sub) (fr.setN' s1 sr1 r1 i)
  | ex c fs S1 =>
    rw [hf] at h
    exact fun x H' L' io' s sr r => h x g H' L' io' (s.stw fr.st.sub) (fr.step s sr) r
  | no => rw [hf] at h; exact h
abbrev DB := Env → Sto → Res (List Sl)
/-- the own ones stand apart -/
inductive SlsR (K : Kw) (L : Addr → Prop) (io : List Addr) (H : Hp) : Hp → List V → List Sl → Prop
  | nil {Hs : Hp} : SlsR K L io H Hs [] []
  | va {Hs : Hp} {v : V} {d : Dv} {vs : List V} {ss : List Sl} : VR K L io H v d → SlsR K L io H Hs vs ss → SlsR K L io H Hs (v :: vs) (.va d :: ss)
  | own {Hs : Hp} {p : Addr} {o : Ob} {H1 : Hp} {vs : List V} {ss : List Sl} : Hs p = none → L p → p ∉ io → ObR K L io H p o → H1 p ≠ none → (∀ q, H1 q = none → Hs q = none) → SlsR K L io H H1 vs ss → SlsR K L io H Hs (.ref p :: vs) (.own o :: ss)
def FinB (K : Kw) (W : WX) (g : St) (L : Addr → Prop) (io : List Addr) (H : Hp) (Q : List V → Hp → Prop) : Res (List Sl) → Prop
  | .ok d S' => ∀ (v : List V) (H' : Hp) (L' : Addr → Prop) (io' : List Addr), Stp L io H L' io' H' → SR K L' io' H' S' → SlsR K L' io' H' H v d → Q v H'
  | .ex c fs S' => ∀ (x : Option Addr) (H' : Hp) (L' : Addr → Prop) (io' : List Addr), Stp L io H L' io' H' → SR K L' io' H' S' → ExR K L' io' H' x fs → W (.ref (He.ga K c)) x g H'
  | .no => False
def rdB (K : Kw) (W : WX) (f : DB) : TA := fun g H Q => ∃ (L0 : Addr → Prop) (io0 : List Addr) (H0 : Hp) (L : Addr → Prop) (io : List Addr) (e : Env) (S : Sto), FR K L0 io0 H0 L io H g e S ∧ FinB K W g L io H Q (f e S)
abbrev QB (X : Cx) (W : WX) (es : List Expr) (f : DB) : Prop := PA X es (rdB X.kw W f)
def bNil : DB := fun _ S => .ok [] S
def bVa (f : DE) (fb : DB) : DB := fun e S => bnd (f e S) fun d S1 => bnd (fb e S1) fun l S2 => .ok (.va d :: l) S2
def bOwn (f : DN) (fb : DB) : DB := fun e S => bnd (f e S) fun o S1 => bnd (fb e S1) fun l S2 => .ok (.own o :: l) S2
theorem qb_nil : QB X W [] bNil := pa_imp pa_nil fun g H Q q => by
  obtain ⟨L0, io0, H0, L, io, e, S, fr, h⟩ := q
  exact h [] H L io (Stp.refl ..) fr.st .nil
theorem back_none {K : Kw} {L L1 : Addr → Prop} {io io1 : List Addr} {H H1 : Hp} {S1 : Sto} (s : Stp L io H L1 io1 H1) (sr1 : SR K L1 io1 H1 S1) {q : Addr} (h : H1 q = none) : H q = none := by
  rcases s.back h with z | z
  · obtain ⟨m, rfl⟩ := s.pre
    exact absurd h (sr1.dom q (sr1.sub q (List.mem_append_left _ z)))
  · exact z
theorem SlsR.weaken {K : Kw} {Hs Hs' : Hp} {L : Addr → Prop} {io : List Addr} {H : Hp} (hw : ∀ q, Hs q = none → Hs' q = none) : ∀ {vs : List V} {ss : List Sl}, SlsR K L io H Hs vs ss → SlsR K L io H Hs' vs ss
  | _, _, .nil => .nil
  | _, _, .va r t => .va r (t.weaken hw)
  | _, _, .own h1 h2 h3 h4 h5 h6 t => .own (hw _ h1) h2 h3 h4 h5 (fun q z => hw q (h6 q z)) t
theorem qb_va {es : List Expr} {f : DE} {fb : DB} (ha : QE X W a f) (hr : QB X W es fb) (hs : starEach (a :: es) X.env = (false, eval a X.env) :: starEach es X.env := by rfl) : QB X W (a :: es) (bVa f fb) := pa_imp (pa_cons ha hr hs) fun g H Q q => by
  obtain ⟨L0, io0, H0, L, io, e, S, fr, q⟩ := q
  refine ⟨L0, io0, H0, L, io, e, S, fr, ?_⟩
  unfold bVa at q
  cases hf : f e S with
  | no => rw [hf] at q; exact q
  | ex c fs S1 => rw [hf] at q; exact q
  | ok d S1 =>
    rw [hf] at q
    intro v H1 L1 io1 s1 sr1 r1
    have fr1 := fr.step s1 sr1
    refine ⟨L0, io0, H0, L1, io1, e, S1, fr1, ?_⟩
    cases hb : fb e S1 with
    | no => simp only [bnd_ok, hb] at q; exact q
    | ex c fs S2 => simp only [bnd_ok, hb] at q; exact fun x H' L' io' s sr r => q x H' L' io' (s1.trans s fr.st.sub) sr r
    | ok ss S2 =>
      simp only [bnd_ok, hb] at q
      intro vs H2 L2 io2 s2 sr2 r2
      exact q _ H2 L2 io2 (s1.trans s2 fr.st.sub) sr2 (.va (r1.step s2 fr1.st.sub) (r2.weaken fun q h => back_none s1 sr1 h))
theorem qb_own {es : List Expr} {f : DN} {fb : DB} (ha : QN X W a f) (hr : QB X W es fb) (hs : starEach (a :: es) X.env = (false, eval a X.env) :: starEach es X.env := by rfl) : QB X W (a :: es) (bOwn f fb) := pa_imp (pa_cons ha hr hs) fun g H Q q => by
  obtain ⟨L0, io0, H0, L, io, e, S, fr, q⟩ := q
  refine ⟨L0, io0, H0, L, io, e, S, fr, ?_⟩
  unfold bOwn at q
  cases hf : f e S with
  | no => rw [hf] at q; exact q
  | ex c fs S1 => rw [hf] at q; exact q
  | ok o S1 =>
    rw [hf] at q
    rintro v H1 L1 io1 s1 sr1 ⟨p, rfl, hp, lp, np, ob⟩
    have fr1 := fr.step s1 sr1
    obtain ⟨u, hu⟩ := ob.has
    refine ⟨L0, io0, H0, L1, io1, e, S1, fr1, ?_⟩
    cases hb : fb e S1 with
    | no => simp only [bnd_ok, hb] at q; exact q
    | ex c fs S2 => simp only [bnd_ok, hb] at q; exact fun x H' L' io' s sr r => q x H' L' io' (s1.trans s fr.st.sub) sr r
    | ok ss S2 =>
      simp only [bnd_ok, hb] at q
      intro vs H2 L2 io2 s2 sr2 r2
      refine q _ H2 L2 io2 (s1.trans s2 fr.st.sub) sr2 (.own hp (s2.up p lp) (fun z => ?_) (ob.mono (fun u e => s2.keep p u e np) fun v d r => r.step s2 fr1.st.sub) (by rw [hu]; exact fun z => nomatch z) (fun q h => back_none s1 sr1 h) r2)
      rcases s2.hn p z with h | h
      · exact np h
      · rw [hu] at h; cases h
/-- the slots are set, from the left -/
def setSs : List Nat → List Sl → Env → Env
  | i :: is, s :: ss, e => setSs is ss (e.set i s)
  | _, _, e => e
def setVs : List Nat → List V → St → St
  | i :: is, v :: vs, g => setVs is vs (g.set i (some v))
  | _, _, g => g
theorem FR.setB {K : Kw} {L0 L : Addr → Prop} {io0 io : List Addr} {H0 H : Hp} {S : Sto} : ∀ {vs : List V} {ss : List Sl} {Hs : Hp} (is : List Nat) {g : St} {e : Env}, FR K L0 io0 H0 L io H g e S → SlsR K L io H Hs vs ss → (∀ q, Hs q = none → H0 q = none) →
    (∀ (j : Nat) (q : Addr), (∀ d : Dv, e[j]? ≠ some (.va d)) → e[j]? ≠ some .no → e[j]? ≠ none → g[j]? = some (some (.ref q)) → Hs q ≠ none) → FR K L0 io0 H0 L io H (setVs is vs g) (setSs is ss e) S
  | _, _, _, [], _, _, fr, _, _, _ => by unfold setVs setSs; exact fr
  | _, _, _, i :: is, _, _, fr, .nil, _, _ => fr
  | _, _, Hs, i :: is, g, e, fr, .va (v := v) (d := d) r t, h0, hn => by
    refine FR.setB is (fr.setV i r) t h0 fun j q v1 v2 v3 hg => ?_
    by_cases hj : j = i
    · subst hj
      by_cases hl : j < e.length
      · exact absurd (set_at hl) (v1 d)
      · exact absurd (List.getElem?_eq_none_iff.mpr (by rw [List.length_set]; omega)) v3
    · rw [set_ne hj] at v1 v2 v3 hg
      exact hn j q v1 v2 v3 hg
  | _, _, Hs, i :: is, g, e, fr, .own (p := p) (o := o) (H1 := H1) h1 h2 h3 h4 h5 h6 t, h0, hn => by
    have fr2 : FR K L0 io0 H0 L io H (g.set i (some (.ref p))) (e.set i (.own o)) S := by
      refine fr.setS i (fun d h => by cases h) (fun l' h => ?_) fun q _ _ hq j hj v1 v2 hg => ?_
      · cases h; exact ⟨p, rfl, h2, h3, h0 p h1, h4⟩
      · cases hq
        by_cases hz : e[j]? = none
        · have := List.getElem?_eq_none_iff.mp hz
          rw [← fr.len] at this
          rw [List.getElem?_eq_none_iff.mpr this] at hg
          cases hg
        · exact hn j p v1 v2 hz hg h1
    refine FR.setB is fr2 t (fun q z => h0 q (h6 q z)) fun j q v1 v2 v3 hg => ?_
    by_cases hj : j = i
    · subst hj
      by_cases hl : j < g.length
      · rw [set_at hl] at hg
        cases hg
        exact h5
      · rw [List.getElem?_eq_none_iff.mpr (by rw [List.length_set]; omega)] at hg
        cases hg
    · rw [set_ne hj] at v1 v2 v3 hg
      exact fun z => hn j q v1 v2 v3 hg (h6 q z)
def sParB (is : List Nat) (fb : DB) : DS := sBind fb fun e ss S => if ss.length = is.length then .nx (setSs is ss e) S else .no
theorem SlsR.len {K : Kw} {L : Addr → Prop} {io : List Addr} {H : Hp} : ∀ {Hs : Hp} {vs : List V} {ss : List Sl}, SlsR K L io H Hs vs ss → vs.length = ss.length
  | _, _, _, .nil => rfl
  | _, _, _, .va _ t => by rw [List.length_cons, List.length_cons, t.len]
  | _, _, _, .own _ _ _ _ _ _ t => by rw [List.length_cons, List.length_cons, t.len]
theorem rd_parB {is : List Nat} {fb : DB} {K : Kw} {D : Ends} {g : St} {H : Hp} (h : rds K W (sParB is fb) D g H) : rdB K W fb g H fun vs H1 => vs.length = is.length ∧ D.nx (setVs is vs g) H1 := by
  obtain ⟨L0, io0, H0, L, io, e, S, fr, h⟩ := h
  refine ⟨L0, io0, H0, L, io, e, S, fr, ?_⟩
  unfold sParB sBind at h
  cases hf : fb e S with
  | no => rw [hf] at h; exact h
  | ex c fs S1 => rw [hf] at h; exact fun x H' L' io' s sr r => h x g H' L' io' (s.stw fr.st.sub) (fr.step s sr) r
  | ok ss S1 =>
    rw [hf] at h
    intro vs H1 L1 io1 s1 sr1 r1
    simp only at h
    split at h
    · rename_i hl
      refine ⟨by rw [r1.len, hl], h _ H1 L1 io1 (s1.stw fr.st.sub) (FR.setB is (fr.step s1 sr1) r1 (fun q z => fr.fresh0 z) fun j q v1 v2 v3 hg => ?_)⟩
      obtain ⟨o, ho, _⟩ := fr.ownAt v1 v2 v3 hg
      rw [ho]; exact fun z => nomatch z
    · exact h.elim
theorem qs_parB3 {px py pz pt : Pos} {kt k2 pt2} {fb : DB} (hc : X.calm = true) (hN : X.N.Nodup) (i j k : Nat) (ha : QB X W [a, b, c] fb) (hi : X.N[i]? = some x := by rfl) (hj : X.N[j]? = some y := by rfl) (hk : X.N[k]? = some z := by rfl) (hij : i ≠ j := by decide) (hik : i ≠ k := by decide) (hjk : j ≠ k := by decide)
    (hx : X.env.scope.names.lookup x = some .local := by rfl) (hy : X.env.scope.names.lookup y = some .local := by rfl) (hz : X.env.scope.names.lookup z = some .local := by rfl)
    (hw : swappedStores [.Tuple [.Name x px, .Name y py, .Name z pz] kt pt] (.Tuple [a, b, c] k2 pt2) X.env = pure (some [x, y, z]) := by rfl)
    (hs : swapsWithSole [.Tuple [.Name x px, .Name y py, .Name z pz] kt pt] (.Tuple [a, b, c] k2 pt2) pos.line X.env = pure false := by rfl) :
    QS X W (.Assign [.Tuple [.Name x px, .Name y py, .Name z pz] kt pt] (.Tuple [a, b, c] k2 pt2) pos) (sParB [i, j, k] fb) := ps_imp (ps_par3 hc hN hi hj hk hij hik hjk hx hy hz ha hw hs) fun D g H h => by
  obtain ⟨L0, io0, H0, L, io, e, S, fr, h⟩ := rd_parB h
  refine ⟨L0, io0, H0, L, io, e, S, fr, ?_⟩
  cases hf : fb e S with
  | no => rw [hf] at h; exact h
  | ex c fs S1 => rw [hf] at h; exact h
  | ok ss S1 =>
    rw [hf] at h
    intro vs H1 L1 io1 s1 sr1 r1
    obtain ⟨hl, hd⟩ := h vs H1 L1 io1 s1 sr1 r1
    match vs, hl, hd with
    | [u, v, w], _, hd => exact ⟨u, v, w, rfl, hd⟩
def sSetO (i : Nat) (fi fv : DE) : DS := sBind fv fun e v S1 => match e[i]? with
  | some (.own (.lst l)) => sBind fi (fun e n S3 => match n with
    | .int n => match ixN l.length n with
      | some j => .nx (e.set i (.ow (l.set j v))) S3
      | none => .no
    | _ => .no) e S1
  | _ => .no
end
def listK (l : List Dv) (S : Sto) : Res (List Dv) := match l with
  | [d] => match asQ S d with
    | some l => .ok l S
    | none => .no
  | _ => .no
def fList (fa : DA) : DL := fun e S => bnd (fa e S) listK
theorem qf_list {X : Cx} {W : WX} {p pos : Pos} {a : Expr} {fa : DA} (hm : X.mg "list" = none) (ha : QXs X W [a] fa) (hg : Gl X "list" := by rfl) (he : starEach [a] X.env = (false, eval a X.env) :: starEach [] X.env := by rfl) : QF X W (.Call (.Name "list" p) [a] [] pos) (fList fa) :=
  pe_imp (pe_callTy call_list_of hg hm (by decide +kernel) ha (by decide) (by decide) he (by rfl)) fun g H Q q => by
  obtain ⟨L0, io0, H0, L, io, e, S, fr, q⟩ := q
  refine FinF.bind (R := VXs X.kw) (k := listK) fr q fun L1 io1 H1 S1 l vs s1 fr1 rvs q => ?_
  unfold listK at q
  split at q
  · rename_i d
    cases h : asQ S1 d with
    | none => rw [h] at q; exact q.elim
    | some m =>
      rw [h] at q
      cases rvs with
      | cons r t =>
        cases t
        obtain ⟨a, xs, rfl, hs, t⟩ := asQ_x fr1.st r h
        exact ⟨a, xs, rfl, hs, FinF.new q fr1.st t⟩
  · exact q.elim
def eAny (i : Nat) : DE := fun e S => match e[i]? with
  | some (.own o) => .ok (vwO o) S
  | some (.va d) => .ok d S
  | _ => .no
theorem qx_any {X : Cx} {W : WX} {pos : Pos} (i : Nat) {x : Str} (hN : X.N[i]? = some x := by rfl) (hv : Vis X.env.scope x := by first | exact Or.inl rfl | exact Or.inr (Or.inl rfl) | exact Or.inr (Or.inr rfl)) (hd : (x == ("__debug__" : Str)) = false := by decide)
    (hcd : (x == ("__classdict__" : Str)) = false := by decide) : QX X W (.Name x pos) (eAny i) := pe_imp (pe_var hN hv hd hcd) fun g H Q q => by
  obtain ⟨L0, io0, H0, L, io, e, S, fr, q⟩ := q
  cases h : e[i]? with
  | none => simp only [eAny, h] at q; exact q.elim
  | some sl =>
    cases sl with
    | own o =>
      simp only [eAny, h] at q
      obtain ⟨p, h1, h2, h3, h4, h5⟩ := fr.own i o h
      exact ⟨.ref p, h1, q _ H L io (Stp.refl ..) fr.st (.inr ⟨p, o, rfl, rfl, h3, h5⟩)⟩
    | va d =>
      simp only [eAny, h] at q
      obtain ⟨v, h1, h2⟩ := fr.va i d h
      exact ⟨v, h1, q _ H L io (Stp.refl ..) fr.st (.inl h2)⟩
    | no => simp only [eAny, h] at q; exact q.elim
/-- frozen from now on -/
def sFz (i : Nat) : DS := fun e S => match e[i]? with
  | some (.own o) => .nx (e.set i (.va (frzO o))) S
  | some (.va _) => .nx e S
  | _ => .no
theorem qss_fz {X : Cx} {W : WX} {sts : List Stmt} {f : DS} (i : Nat) (h : QSs X W sts f) : QSs X W sts (sSeq (sFz i) f) := pss_imp h fun D g H h => by
  obtain ⟨L0, io0, H0, L, io, e, S, fr, h⟩ := h
  unfold sSeq sFz at h
  cases q : e[i]? with
  | none => rw [q] at h; exact h.elim
  | some s =>
    cases s with
    | own o =>
      rw [q] at h
      obtain ⟨p, _, fr2, w⟩ := fr.frz q
      exact ⟨L0, io0, H0, Lz L p, io, _, S, fr2, outR.later h w⟩
    | va d =>
      rw [q] at h
      exact ⟨L0, io0, H0, L, io, e, S, fr, h⟩
    | no => rw [q] at h; exact h.elim
end DL
namespace DL
open PySem L2
def prD : Dv → Option (Key × Dv)
  | .tup [k, v] => (keyD k).map fun k' => (k', v)
  | _ => none
def prsD : List Dv → Option (List (Key × Dv))
  | [] => some []
  | d :: l => (prD d).bind fun p => (prsD l).map fun r => p :: r
def dictK (l : List Dv) (S : Sto) : Res (List (Key × Dv)) := match l with
  | [d] => (match asL S d with
    | some m => (match prsD m with
      | some kv => .ok (mergeD [] kv) S
      | none => .no)
    | none => .no)
  | _ => .no
def dDict (fa : DA) : DD := fun e S => bnd (fa e S) dictK
theorem FinD.bind {α β : Type} {K : Kw} {W : WX} {R : (Addr → Prop) → List Addr → Hp → β → α → Prop} {f : Env → Sto → Res α} {k : α → Sto → Res (List (Key × Dv))} {g : St} {L0 L : Addr → Prop} {io0 io : List Addr} {H0 H : Hp} {e : Env} {S : Sto} {Q : V → Hp → Prop} {P : β → Hp → Prop}
    (fr : FR K L0 io0 H0 L io H g e S) (h : FinD K W g L io H Q (bnd (f e S) k))
    (n : ∀ (L1 : Addr → Prop) (io1 : List Addr) (H1 : Hp) (S1 : Sto) (a : α) (v : β), Stp L io H L1 io1 H1 → FR K L0 io0 H0 L1 io1 H1 g e S1 → R L1 io1 H1 v a → FinD K W g L1 io1 H1 Q (k a S1) → P v H1) : Rdg K W R f g H P := by
  refine ⟨L0, io0, H0, L, io, e, S, fr, ?_⟩
  cases hf : f e S with
  | ok a S1 =>
    rw [hf] at h
    intro v H1 L1 io1 s1 sr1 r1
    exact n L1 io1 H1 S1 a v s1 (fr.step s1 sr1) r1 (FinD.later (r := k a S1) h s1 fr.st.sub sr1)
  | ex c fs S1 => rw [hf] at h; exact h
  | no => rw [hf] at h; exact h
end DL
namespace TX
open PySem PySem.Spec PyProof.Rows L2
def keyS (e : Int × Value) : Str := match e.2 with | .str k _ => k | _ => Str.empty
def GoodS (P : Program) (w : World) (e : Int × Value) : Prop := ∃ k tk, e.2 = Value.str k tk ∧ e.1 = (strKind P w).hash k
/-- the set of texts at a: S its members, n their number -/
def TxR (P : Program) (w : World) (h : Heap) (a : Addr) (S : Str → Bool) (n : Nat) : Prop :=
  ∃ o es ep t, h.get? a = some o ∧ o.ExactSet ∧ o.data = .set es ep t ∧ (∀ e ∈ es.toList, GoodS P w e) ∧ (es.toList.map keyS).Nodup ∧ (∀ k, S k = true ↔ k ∈ es.toList.map keyS) ∧
    es.size < scanBound ∧ t.fits es.size = true ∧ es.size = n ∧ Ris t.place.toList ∧ (w.params.followText "set-order" = true ∨ t.led = true)
section
variable {P : Program} {w : World} {h h' : Heap} {a : Addr} {S : Str → Bool} {n : Nat}
theorem TxR.lt (R : TxR P w h a S n) : a < h.objs.size := by
  obtain ⟨o, es, ep, t, ho, r⟩ := R
  exact Heap.lt_size ho
end
end TX
namespace DL
open PySem L2
section
variable {α β : Type} (S S' : Sto) (e : Env) (d d1 d2 d3 : Dv) (l l' : List Dv) (f f1 f2 f3 fo fi fv : DE) (t t1 t2 : DT) (fa : DA) (fl : DL) (s s1 s2 : DS) (h2 : Sto → Dv → Dv → Option (Dv × Sto)) (hc : Sto → List Dv → Option (Dv × Sto)) (g : DF) (i j k : Nat) (b : Bool) (c : Str) (fs : List (Str × Dv)) (x : Option (Dv × Sto))
def kVar (S : Sto) : Option Sl → Res Dv
  | some (.va d) => .ok d S
  | _ => .no
@[simp] theorem ev_var : eVar i e S = kVar S (e[i]?) := rfl
@[simp] theorem kVar_va : kVar S (some (.va d)) = .ok d S := rfl
@[simp] theorem ev_c : eC d e S = .ok d S := rfl
@[simp] theorem ofO_none : (ofO none : Res α) = .no := rfl
@[simp] theorem bnd_no (k : α → Sto → Res β) : bnd .no k = .no := rfl
def kB1 (h : Sto → Dv → Dv → Option (Dv × Sto)) (f2 : DE) (e : Env) (a : Dv) (S : Sto) : Res Dv := bnd (f2 e S) fun b S2 => ofO (h S2 a b)
def kB2 (h : Sto → Dv → Dv → Option (Dv × Sto)) (a b : Dv) (S : Sto) : Res Dv := ofO (h S a b)
@[simp] theorem ev_bin : eBin h2 f1 f2 e S = bnd (f1 e S) (kB1 h2 f2 e) := rfl
@[simp] theorem ev_b1 : kB1 h2 f2 e d S = bnd (f2 e S) (kB2 h2 d) := rfl
@[simp] theorem ev_b2 : kB2 h2 d1 d2 S = ofO (h2 S d1 d2) := rfl
@[simp] theorem ev_tval : tVal f e S = bnd (f e S) blD := rfl
@[simp] theorem blD_bl : blD (.bl b) S = .ok b S := rfl
@[simp] theorem ev_ttru : tTru f e S = bnd (f e S) truR := rfl
def kTru (S : Sto) : Option Bool → Res Bool
  | some b => .ok b S
  | none => .no
@[simp] theorem ev_truR : truR d S = kTru S (truD S d) := by unfold truR; cases truD S d <;> rfl
@[simp] theorem kTru_some : kTru S (some b) = .ok b S := rfl
@[simp] theorem tru_bl : truD S (.bl b) = some b := rfl
@[simp] theorem tru_non : truD S .non = some false := rfl
@[simp] theorem tru_int (n : Int) : truD S (.int n) = some (n != 0) := rfl
@[simp] theorem tru_tup : truD S (.tup l) = some (!l.isEmpty) := rfl
@[simp] theorem tru_lst : truD S (.lst l) = some (!l.isEmpty) := rfl
@[simp] theorem tru_rol : truD S (.rol l) = some (!l.isEmpty) := rfl
def kAnd (t2 : DT) (e : Env) (b : Bool) (S : Sto) : Res Bool := if b then t2 e S else .ok false S
def kOr (t2 : DT) (e : Env) (b : Bool) (S : Sto) : Res Bool := if b then .ok true S else t2 e S
def kNot (b : Bool) (S : Sto) : Res Bool := .ok (!b) S
@[simp] theorem ev_tand : tAnd' t1 t2 e S = bnd (t1 e S) (kAnd t2 e) := rfl
@[simp] theorem ev_tor : tOr' t1 t2 e S = bnd (t1 e S) (kOr t2 e) := rfl
@[simp] theorem ev_tnot : tNot' t1 e S = bnd (t1 e S) kNot := rfl
@[simp] theorem kAnd_t : kAnd t2 e true S = t2 e S := rfl
@[simp] theorem kAnd_f : kAnd t2 e false S = .ok false S := rfl
@[simp] theorem kOr_t : kOr t2 e true S = .ok true S := rfl
@[simp] theorem kOr_f : kOr t2 e false S = t2 e S := rfl
@[simp] theorem kNot_v : kNot b S = .ok (!b) S := rfl
def kIf (f1 f2 : DE) (e : Env) (b : Bool) (S : Sto) : Res Dv := if b then f1 e S else f2 e S
@[simp] theorem ev_if : eIf t f1 f2 e S = bnd (t e S) (kIf f1 f2 e) := rfl
@[simp] theorem kIf_t : kIf f1 f2 e true S = f1 e S := rfl
@[simp] theorem kIf_f : kIf f1 f2 e false S = f2 e S := rfl
def kEAnd (f2 : DE) (e : Env) (a : Dv) (S : Sto) : Res Dv := bnd (truR a S) fun k S2 => if k then f2 e S2 else .ok a S2
def kEOr (f2 : DE) (e : Env) (a : Dv) (S : Sto) : Res Dv := bnd (truR a S) fun k S2 => if k then .ok a S2 else f2 e S2
def kENot (a : Dv) (S : Sto) : Res Dv := bnd (truR a S) fun k S2 => .ok (.bl (!k)) S2
def kEAnd2 (f2 : DE) (e : Env) (a : Dv) (k : Bool) (S : Sto) : Res Dv := if k then f2 e S else .ok a S
def kEOr2 (f2 : DE) (e : Env) (a : Dv) (k : Bool) (S : Sto) : Res Dv := if k then .ok a S else f2 e S
def kENot2 (k : Bool) (S : Sto) : Res Dv := .ok (.bl (!k)) S
@[simp] theorem ev_eand : eAnd f1 f2 e S = bnd (f1 e S) (kEAnd f2 e) := rfl
@[simp] theorem ev_eor : eOr f1 f2 e S = bnd (f1 e S) (kEOr f2 e) := rfl
@[simp] theorem ev_enot : eNot f1 e S = bnd (f1 e S) kENot := rfl
@[simp] theorem ev_keand : kEAnd f2 e d S = bnd (kTru S (truD S d)) (kEAnd2 f2 e d) := by unfold kEAnd; rw [ev_truR]; rfl
@[simp] theorem ev_keor : kEOr f2 e d S = bnd (kTru S (truD S d)) (kEOr2 f2 e d) := by unfold kEOr; rw [ev_truR]; rfl
@[simp] theorem ev_kenot : kENot d S = bnd (kTru S (truD S d)) kENot2 := by unfold kENot; rw [ev_truR]; rfl
@[simp] theorem kEAnd2_t : kEAnd2 f2 e d true S = f2 e S := rfl
@[simp] theorem kEAnd2_f : kEAnd2 f2 e d false S = .ok d S := rfl
@[simp] theorem kEOr2_t : kEOr2 f2 e d true S = .ok d S := rfl
@[simp] theorem kEOr2_f : kEOr2 f2 e d false S = f2 e S := rfl
@[simp] theorem kENot2_v : kENot2 b S = .ok (.bl (!b)) S := rfl
@[simp] theorem ev_anil : aNil e S = .ok [] S := rfl
def kA1 (fa : DA) (e : Env) (d : Dv) (S : Sto) : Res (List Dv) := bnd (fa e S) fun l S2 => .ok (d :: l) S2
def kA2 (d : Dv) (l : List Dv) (S : Sto) : Res (List Dv) := .ok (d :: l) S
@[simp] theorem ev_acons : aCons f fa e S = bnd (f e S) (kA1 fa e) := rfl
@[simp] theorem ev_a1 : kA1 fa e d S = bnd (fa e S) (kA2 d) := rfl
@[simp] theorem ev_a2 : kA2 d l S = .ok (d :: l) S := rfl
@[simp] theorem ev_tup : eTup fa e S = bnd (fa e S) tupR := rfl
@[simp] theorem ev_lst : eLst fa e S = bnd (fa e S) lstR := rfl
theorem line_le (n : Nat) (h : n ≤ 100000) : n ≤ sizeLine := Nat.le_trans h (by decide)
theorem tupR_ok (h : l.length ≤ sizeLine) : tupR l S = .ok (.tup l) S := if_pos h
@[simp] theorem tupR0 : tupR [] S = .ok (.tup []) S := tupR_ok _ _ (line_le _ (by decide))
@[simp] theorem tupR1 (a1 : Dv) : tupR [a1] S = .ok (.tup [a1]) S := tupR_ok _ _ (line_le _ (by simp))
@[simp] theorem tupR2 (a1 a2 : Dv) : tupR [a1, a2] S = .ok (.tup [a1, a2]) S := tupR_ok _ _ (line_le _ (by simp))
@[simp] theorem tupR3 (a1 a2 a3 : Dv) : tupR [a1, a2, a3] S = .ok (.tup [a1, a2, a3]) S := tupR_ok _ _ (line_le _ (by simp))
@[simp] theorem tupR4 (a1 a2 a3 a4 : Dv) : tupR [a1, a2, a3, a4] S = .ok (.tup [a1, a2, a3, a4]) S := tupR_ok _ _ (line_le _ (by simp))
@[simp] theorem tupR5 (a1 a2 a3 a4 a5 : Dv) : tupR [a1, a2, a3, a4, a5] S = .ok (.tup [a1, a2, a3, a4, a5]) S := tupR_ok _ _ (line_le _ (by simp))
@[simp] theorem tupR6 (a1 a2 a3 a4 a5 a6 : Dv) : tupR [a1, a2, a3, a4, a5, a6] S = .ok (.tup [a1, a2, a3, a4, a5, a6]) S := tupR_ok _ _ (line_le _ (by simp))
def kCB (h : Sto → List Dv → Option (Dv × Sto)) (l : List Dv) (S : Sto) : Res Dv := ofO (h S l)
@[simp] theorem ev_cb : eCB hc fa e S = bnd (fa e S) (kCB hc) := rfl
@[simp] theorem ev_kcb : kCB hc l S = ofO (hc S l) := rfl
def kCall (g : DF) (l : List Dv) (S : Sto) : Res Dv := g S l
@[simp] theorem ev_call : eCall g fa e S = bnd (fa e S) (kCall g) := rfl
@[simp] theorem ev_kcall : kCall g l S = g S l := rfl
def kFrz (l : List Dv) (S : Sto) : Res Dv := .ok (.lst l) S
@[simp] theorem ev_frz : eFrz fl e S = bnd (fl e S) kFrz := rfl
@[simp] theorem ev_kfrz : kFrz l S = .ok (.lst l) S := rfl
def kLst (l : List Dv) (S : Sto) : Res (List Dv) := if l.length ≤ sizeLine then .ok l S else .no
@[simp] theorem ev_flst : fLst fa e S = bnd (fa e S) kLst := rfl
theorem kLst_ok (h : l.length ≤ sizeLine) : kLst l S = .ok l S := if_pos h
@[simp] theorem kLst0 : kLst [] S = .ok [] S := kLst_ok _ _ (line_le _ (by decide))
@[simp] theorem kLst1 (a1 : Dv) : kLst [a1] S = .ok [a1] S := kLst_ok _ _ (line_le _ (by simp))
@[simp] theorem kLst2 (a1 a2 : Dv) : kLst [a1, a2] S = .ok [a1, a2] S := kLst_ok _ _ (line_le _ (by simp))
@[simp] theorem kLst3 (a1 a2 a3 : Dv) : kLst [a1, a2, a3] S = .ok [a1, a2, a3] S := kLst_ok _ _ (line_le _ (by simp))
@[simp] theorem kLst4 (a1 a2 a3 a4 : Dv) : kLst [a1, a2, a3, a4] S = .ok [a1, a2, a3, a4] S := kLst_ok _ _ (line_le _ (by simp))
def kNew (l : List Dv) (S : Sto) : Res Dv := .ok (.hdl S.length) (S ++ [.lst l])
@[simp] theorem ev_new : eNew fl e S = bnd (fl e S) kNew := rfl
@[simp] theorem ev_knew : kNew l S = .ok (.hdl S.length) (S ++ [.lst l]) := rfl
@[simp] theorem ev_isq : iSq f e S = bnd (f e S) seqR := rfl
@[simp] theorem seqR_tup : seqR (.tup l) S = .ok l S := rfl
@[simp] theorem seqR_lst : seqR (.lst l) S = .ok l S := rfl
@[simp] theorem seqR_rol : seqR (.rol l) S = .ok l S := rfl
@[simp] theorem ev_rng1 : iRng1' fa e S = bnd (fa e S) rngR1 := rfl
@[simp] theorem ev_rng2 : iRng2' fa e S = bnd (fa e S) rngR2 := rfl
theorem rngR1_ok (n : Int) (h : 0 ≤ n ∧ n < 1000000000) : rngR1 [.int n] S = .ok (rngD 0 n.toNat) S := if_pos ⟨by omega, by omega⟩
/-- comprehensions -/
def kLc (gd : DG) (tt : DT) (te : DE) (vs : List Nat) (e : Env) (ds : List Dv) (S : Sto) : Res (List Dv) := match lcR gd tt te (wipeE e vs) ds S with
  | .ok l S2 => if l.length ≤ sizeLine then .ok l S2 else .no
  | _ => .no
def kLcEnd : Res (List Dv) → Res (List Dv)
  | .ok l S2 => if l.length ≤ sizeLine then .ok l S2 else .no
  | _ => .no
@[simp] theorem ev_fLc (gd : DG) (tt : DT) (te : DE) (vs : List Nat) : fLc fl gd tt te vs e S = bnd (fl e S) (kLc gd tt te vs e) := rfl
@[simp] theorem ev_kLc (gd : DG) (tt : DT) (te : DE) (vs : List Nat) : kLc gd tt te vs e l S = kLcEnd (lcR gd tt te (wipeE e vs) l S) := by unfold kLc kLcEnd; rfl
theorem kLcEnd_ok (h : l.length ≤ sizeLine) : kLcEnd (.ok l S) = .ok l S := if_pos h
@[simp] theorem wipeE_nil : wipeE e [] = e := rfl
@[simp] theorem wipeE_cons (v : Nat) (vs : List Nat) : wipeE e (v :: vs) = (wipeE e vs).set v .no := rfl
@[simp] theorem ev_gN : gN i d e = some (e.set i (.va d)) := rfl
def kGs (gs : DGs) (r : List Dv) : Option Env → Option Env
  | some e => gs r e
  | none => none
@[simp] theorem ev_gT (gs : DGs) : gT gs (.tup l) e = gs l e := rfl
@[simp] theorem ev_gsNil : gsNil [] e = some e := rfl
@[simp] theorem ev_gsCons (gd : DG) (gs : DGs) : gsCons gd gs (d :: l) e = kGs gs l (gd d e) := by show (gd d e).bind (fun e' => gs l e') = _; cases gd d e <;> rfl
@[simp] theorem kGs_some (gs : DGs) : kGs gs l (some e) = gs l e := rfl
/-- statements -/
@[simp] theorem ev_snil : sNil e S = .nx e S := rfl
def kSeq (s2 : DS) : Out → Out
  | .nx e S => s2 e S
  | o => o
@[simp] theorem ev_seq : sSeq s1 s2 e S = kSeq s2 (s1 e S) := by unfold sSeq kSeq; cases s1 e S <;> rfl
@[simp] theorem kSeq_nx : kSeq s2 (.nx e S) = s2 e S := rfl
@[simp] theorem kSeq_rt : kSeq s2 (.rt d S) = .rt d S := rfl
@[simp] theorem kSeq_bk : kSeq s2 (.bk e S) = .bk e S := rfl
@[simp] theorem kSeq_ct : kSeq s2 (.ct e S) = .ct e S := rfl
@[simp] theorem kSeq_ex : kSeq s2 (.ex c fs e S) = .ex c fs e S := rfl
@[simp] theorem ev_retN : sRetN e S = .rt .non S := rfl
def kS {α : Type} (k : Env → α → Sto → Out) (e : Env) : Res α → Out
  | .ok a S => k e a S
  | .ex c fs S => .ex c fs e S
  | .no => .no
theorem ev_sbind (f : Env → Sto → Res α) (k : Env → α → Sto → Out) : sBind f k e S = kS k e (f e S) := by unfold sBind kS; cases f e S <;> rfl
@[simp] theorem kS_ok (k : Env → α → Sto → Out) (a : α) : kS k e (.ok a S) = k e a S := rfl
@[simp] theorem kS_ex (k : Env → α → Sto → Out) : kS k e (.ex c fs S) = .ex c fs e S := rfl
def qRet (e : Env) (d : Dv) (S : Sto) : Out := .rt d S
@[simp] theorem ev_ret : sRet f e S = kS qRet e (f e S) := ev_sbind ..
@[simp] theorem ev_qret : qRet e d S = .rt d S := rfl
def qExpr (e : Env) (d : Dv) (S : Sto) : Out := .nx e S
@[simp] theorem ev_expr : sExpr f e S = kS qExpr e (f e S) := ev_sbind ..
@[simp] theorem ev_qexpr : qExpr e d S = .nx e S := rfl
def qIf (s1 s2 : DS) (e : Env) (b : Bool) (S : Sto) : Out := if b then s1 e S else s2 e S
@[simp] theorem ev_sif : sIf t s1 s2 e S = kS (qIf s1 s2) e (t e S) := ev_sbind ..
@[simp] theorem qIf_t : qIf s1 s2 e true S = s1 e S := rfl
@[simp] theorem qIf_f : qIf s1 s2 e false S = s2 e S := rfl
def qAsg (i : Nat) (e : Env) (d : Dv) (S : Sto) : Out := .nx (e.set i (.va d)) S
@[simp] theorem ev_asg : sAsg i f e S = kS (qAsg i) e (f e S) := ev_sbind ..
@[simp] theorem ev_qasg : qAsg i e d S = .nx (e.set i (.va d)) S := rfl
def kAsgG (S : Sto) : Option Env → Out
  | some e' => .nx e' S
  | none => .no
def qAsgG (gd : DG) (e : Env) (d : Dv) (S : Sto) : Out := kAsgG S (gd d e)
@[simp] theorem ev_asgG (gd : DG) : sAsgG gd f e S = kS (qAsgG gd) e (f e S) := by
  unfold sAsgG; rw [ev_sbind]; congr 1
@[simp] theorem ev_qasgG (gd : DG) : qAsgG gd e d S = kAsgG S (gd d e) := rfl
@[simp] theorem kAsgG_some : kAsgG S (some e) = .nx e S := rfl
def qPar (i j : Nat) (e : Env) (l : List Dv) (S : Sto) : Out := match l with
  | [d1, d2] => .nx ((e.set i (.va d1)).set j (.va d2)) S
  | _ => .no
@[simp] theorem ev_par : sPar i j fa e S = kS (qPar i j) e (fa e S) := ev_sbind ..
@[simp] theorem ev_qpar : qPar i j e [d1, d2] S = .nx ((e.set i (.va d1)).set j (.va d2)) S := rfl
def qPar3 (i j k : Nat) (e : Env) (l : List Dv) (S : Sto) : Out := match l with
  | [d1, d2, d3] => .nx (((e.set i (.va d1)).set j (.va d2)).set k (.va d3)) S
  | _ => .no
@[simp] theorem ev_par3 : sPar3 i j k fa e S = kS (qPar3 i j k) e (fa e S) := ev_sbind ..
@[simp] theorem ev_qpar3 : qPar3 i j k e [d1, d2, d3] S = .nx (((e.set i (.va d1)).set j (.va d2)).set k (.va d3)) S := rfl
def qOwn (i : Nat) (e : Env) (l : List Dv) (S : Sto) : Out := .nx (e.set i (.ow l)) S
@[simp] theorem ev_own : sOwn i fl e S = kS (qOwn i) e (fl e S) := ev_sbind ..
@[simp] theorem ev_qown : qOwn i e l S = .nx (e.set i (.ow l)) S := rfl
def qNew (i : Nat) (e : Env) (l : List Dv) (S : Sto) : Out := .nx (e.set i (.va (.hdl S.length))) (S ++ [.lst l])
@[simp] theorem ev_snew : sNew i fl e S = kS (qNew i) e (fl e S) := ev_sbind ..
@[simp] theorem ev_qnew : qNew i e l S = .nx (e.set i (.va (.hdl S.length))) (S ++ [.lst l]) := rfl
def kFz (i : Nat) (e : Env) (S : Sto) : Option Sl → Out
  | some (.own o) => .nx (e.set i (.va (frzO o))) S
  | _ => .no
@[simp] theorem ev_sfrz : sFrz i e S = kFz i e S (e[i]?) := by unfold sFrz kFz; cases e[i]? with
  | none => rfl
  | some s => cases s <;> rfl
@[simp] theorem kFz_ow : kFz i e S (some (.ow l)) = .nx (e.set i (.va (.lst l))) S := rfl
@[simp] theorem kFz_od (m : List (Key × Dv)) : kFz i e S (some (.od m)) = .nx (e.set i (.va (.dic m))) S := rfl
@[simp] theorem kFz_oi : kFz i e S (some (.oi c fs)) = .nx (e.set i (.va (.obj c fs))) S := rfl
def qFor (gd : DG) (s : DS) (e : Env) (l : List Dv) (S : Sto) : Out := forR gd s l e S
@[simp] theorem ev_for (gd : DG) : sFor fl gd s e S = kS (qFor gd s) e (fl e S) := ev_sbind ..
@[simp] theorem ev_qfor (gd : DG) : qFor gd s e l S = forR gd s l e S := rfl
def qOwnM (h : List Dv → List Dv → Option (List Dv × Dv)) (i : Nat) (l : List Dv) (e : Env) (as : List Dv) (S : Sto) : Out := match h l as with
  | some (l', _) => .nx (e.set i (.ow l')) S
  | none => .no
def kOwnM (h : List Dv → List Dv → Option (List Dv × Dv)) (i : Nat) (fa : DA) (e : Env) (S : Sto) : Option Sl → Out
  | some (.own (.lst l)) => kS (qOwnM h i l) e (fa e S)
  | _ => .no
@[simp] theorem ev_ownM (h : List Dv → List Dv → Option (List Dv × Dv)) : sOwnM h i fa e S = kOwnM h i fa e S (e[i]?) := by
  unfold sOwnM kOwnM
  rcases e[i]? with _ | (_ | _ | (l | _ | _ | _ | _)) <;> first | rfl | exact ev_sbind ..
@[simp] theorem kOwnM_ow (h : List Dv → List Dv → Option (List Dv × Dv)) : kOwnM h i fa e S (some (.ow l)) = kS (qOwnM h i l) e (fa e S) := rfl
@[simp] theorem qOwnM_app (h : l.length < sizeLine) : qOwnM appD i l e [d] S = .nx (e.set i (.ow (l ++ [d]))) S := by unfold qOwnM appD; simp only [if_pos h]
/-- handles' lists -/
def kSet (e : Env) : Option Sto → Out
  | some S => .nx e S
  | none => .no
def qSet1 (fo fi : DE) (e : Env) (v : Dv) (S : Sto) : Out := sBind fo (fun e o S2 => sBind fi (fun e i S3 => match setD S3 o i v with
  | some S4 => .nx e S4
  | none => .no) e S2) e S
def qSet2 (fi : DE) (v : Dv) (e : Env) (o : Dv) (S : Sto) : Out := sBind fi (fun e i S3 => match setD S3 o i v with
  | some S4 => .nx e S4
  | none => .no) e S
def qSet3 (v o : Dv) (e : Env) (i : Dv) (S : Sto) : Out := kSet e (setD S o i v)
@[simp] theorem ev_setI : sSetI fo fi fv e S = kS (qSet1 fo fi) e (fv e S) := ev_sbind ..
@[simp] theorem ev_qset1 : qSet1 fo fi e d S = kS (qSet2 fi d) e (fo e S) := ev_sbind ..
@[simp] theorem ev_qset2 : qSet2 fi d e d1 S = kS (qSet3 d d1) e (fi e S) := by
  unfold qSet2; rw [ev_sbind]; congr 1
@[simp] theorem ev_qset3 : qSet3 d d1 e d2 S = kSet e (setD S d1 d2 d) := rfl
@[simp] theorem kSet_some : kSet e (some S) = .nx e S := rfl
def kSetH (S : Sto) (k : Nat) (n : Int) (v : Dv) : Option Ob → Option Sto
  | some (.lst l) => match ixN l.length n with
    | some j => some (S.set k (.lst (l.set j v)))
    | none => none
  | _ => none
@[simp] theorem ev_setD (n : Int) : setD S (.hdl k) (.int n) d = kSetH S k n d (S[k]?) := by
  simp only [setD]; unfold kSetH; generalize S[k]? = z; cases z with
  | none => rfl
  | some o => cases o <;> rfl
def kSetJ (S : Sto) (k : Nat) (l : List Dv) (v : Dv) : Option Nat → Option Sto
  | some j => some (S.set k (.lst (l.set j v)))
  | none => none
@[simp] theorem kSetH_lst (n : Int) : kSetH S k n d (some (.lst l)) = kSetJ S k l d (ixN l.length n) := by simp only [kSetH]; generalize ixN l.length n = z; cases z <;> rfl
@[simp] theorem kSetJ_some : kSetJ S k l d (some j) = some (S.set k (.lst (l.set j d))) := rfl
def qAug1 (op : Dv → Dv → Option Dv) (fi fv : DE) (e : Env) (o : Dv) (S : Sto) : Out := sBind fi (fun e i S2 => match ixL S2 o i with
  | some x => sBind fv (fun e y S3 => match op x y with
    | some z => (match setD S3 o i z with
      | some S4 => .nx e S4
      | none => .no)
    | none => .no) e S2
  | none => .no) e S
def kAug2 (op : Dv → Dv → Option Dv) (fv : DE) (o i : Dv) (e : Env) (S : Sto) : Option Dv → Out
  | some x => sBind fv (fun e y S3 => match op x y with
    | some z => (match setD S3 o i z with
      | some S4 => .nx e S4
      | none => .no)
    | none => .no) e S
  | none => .no
def qAug2 (op : Dv → Dv → Option Dv) (fv : DE) (o : Dv) (e : Env) (i : Dv) (S : Sto) : Out := kAug2 op fv o i e S (ixL S o i)
def kAug4 (o i : Dv) (e : Env) (S : Sto) : Option Dv → Out
  | some z => kSet e (setD S o i z)
  | none => .no
def qAug3 (op : Dv → Dv → Option Dv) (o i x : Dv) (e : Env) (y : Dv) (S : Sto) : Out := kAug4 o i e S (op x y)
@[simp] theorem ev_augI (op : Dv → Dv → Option Dv) : sAugI op fo fi fv e S = kS (qAug1 op fi fv) e (fo e S) := ev_sbind ..
@[simp] theorem ev_qaug1 (op : Dv → Dv → Option Dv) : qAug1 op fi fv e d S = kS (qAug2 op fv d) e (fi e S) := by
  unfold qAug1; rw [ev_sbind]; congr 1
@[simp] theorem ev_qaug2 (op : Dv → Dv → Option Dv) : qAug2 op fv d e d1 S = kAug2 op fv d d1 e S (ixL S d d1) := rfl
@[simp] theorem ev_kaug2 (op : Dv → Dv → Option Dv) : kAug2 op fv d d1 e S (some d2) = kS (qAug3 op d d1 d2) e (fv e S) := by
  unfold kAug2
  simp only
  rw [ev_sbind]; congr 1
@[simp] theorem ev_qaug3 (op : Dv → Dv → Option Dv) : qAug3 op d d1 d2 e d3 S = kAug4 d d1 e S (op d2 d3) := rfl
@[simp] theorem kAug4_some : kAug4 d d1 e S (some d2) = kSet e (setD S d d1 d2) := rfl
def kIxL (i : Int) : Option Ob → Option Dv
  | some (.lst l) => atI l i
  | _ => none
@[simp] theorem ixL_hdl (n : Int) : ixL S (.hdl k) (.int n) = kIxL n (S[k]?) := by
  simp only [ixL, asL]; unfold kIxL; generalize S[k]? = z; cases z with
  | none => rfl
  | some o => cases o <;> rfl
@[simp] theorem kIxL_lst (n : Int) : kIxL n (some (.lst l)) = atI l n := rfl
def qAug (op : Dv → Dv → Option Dv) (n : Nat) (x : Dv) (e : Env) (y : Dv) (S : Sto) : Out := match op x y with
  | some z => .nx (e.set n (.va z)) S
  | none => .no
def kAug (op : Dv → Dv → Option Dv) (n : Nat) (fv : DE) (e : Env) (S : Sto) : Option Sl → Out
  | some (.va x) => kS (qAug op n x) e (fv e S)
  | _ => .no
@[simp] theorem ev_aug (op : Dv → Dv → Option Dv) (n : Nat) : sAug op n fv e S = kAug op n fv e S (e[n]?) := by
  unfold sAug kAug
  cases e[n]? with
  | none => rfl
  | some s => cases s <;> first | rfl | exact ev_sbind ..
@[simp] theorem kAug_va (op : Dv → Dv → Option Dv) (n : Nat) : kAug op n fv e S (some (.va d)) = kS (qAug op n d) e (fv e S) := rfl
@[simp] theorem qAug_add (n : Nat) (p q : Int) : qAug addI n (.int p) e (.int q) S = .nx (e.set n (.va (.int (p + q)))) S := rfl
@[simp] theorem qAug_sub (n : Nat) (p q : Int) : qAug subI n (.int p) e (.int q) S = .nx (e.set n (.va (.int (p - q)))) S := rfl
@[simp] theorem addI_int (p q : Int) : addI (.int p) (.int q) = some (.int (p + q)) := rfl
@[simp] theorem subI_int (p q : Int) : subI (.int p) (.int q) = some (.int (p - q)) := rfl
/-- operators by data -/
@[simp] theorem op_sub_i (p q : Int) : pu2 subD S (.int p) (.int q) = some (.int (p - q), S) := rfl
theorem op_mul_i (p q : Int) (h : (-(2 ^ 64) < p ∧ p < 2 ^ 64) ∨ (-(2 ^ 64) < q ∧ q < 2 ^ 64)) : pu2 mulD S (.int p) (.int q) = some (.int (p * q), S) := by
  show (if _ then some (Dv.int (p * q)) else none).map _ = _
  rw [if_pos h]; rfl
theorem op_mod_i (p q : Int) (h : 0 < q) : pu2 modD S (.int p) (.int q) = some (.int (p % q), S) := by
  show (if _ then some (Dv.int (p % q)) else none).map _ = _
  rw [if_pos h]; rfl
theorem op_fdiv_i (p q : Int) (h : 0 < q ∧ q < 1073741824) : pu2 fdivD S (.int p) (.int q) = some (.int (p / q), S) := by
  show (if _ then some (Dv.int (p / q)) else none).map _ = _
  rw [if_pos h]; rfl
@[simp] theorem op_lt_i (p q : Int) : pu2 ltD S (.int p) (.int q) = some (.bl (decide (p < q)), S) := rfl
@[simp] theorem op_le_i (p q : Int) : pu2 leD S (.int p) (.int q) = some (.bl (decide (p ≤ q)), S) := rfl
@[simp] theorem op_gt_i (p q : Int) : pu2 gtD S (.int p) (.int q) = some (.bl (decide (q < p)), S) := rfl
@[simp] theorem op_ge_i (p q : Int) : pu2 geD S (.int p) (.int q) = some (.bl (decide (q ≤ p)), S) := rfl
@[simp] theorem op_add_i (p q : Int) : addD S (.int p) (.int q) = some (.int (p + q), S) := rfl
def kEq (S : Sto) : Option Bool → Option (Dv × Sto)
  | some b => some (.bl b, S)
  | none => none
def kNe (S : Sto) : Option Bool → Option (Dv × Sto)
  | some b => some (.bl (!b), S)
  | none => none
@[simp] theorem ev_eqE : eqE S d1 d2 = kEq S (eqD S d1 d2) := by unfold eqE kEq; cases eqD S d1 d2 <;> rfl
@[simp] theorem ev_neE : neE S d1 d2 = kNe S (eqD S d1 d2) := by unfold neE kNe; cases eqD S d1 d2 <;> rfl
@[simp] theorem kEq_some : kEq S (some b) = some (.bl b, S) := rfl
@[simp] theorem kNe_some : kNe S (some b) = some (.bl (!b), S) := rfl
@[simp] theorem eq_ss (p q : Str) : eqD S (.str p) (.str q) = some (decide (p = q)) := rfl
@[simp] theorem eq_ii (p q : Int) : eqD S (.int p) (.int q) = some (decide (p = q)) := rfl
@[simp] theorem eq_bb (p q : Bool) : eqD S (.bl p) (.bl q) = some (decide (p = q)) := rfl
@[simp] theorem eq_nn : eqD S .non .non = some true := rfl
@[simp] theorem eq_ni (p : Int) : eqD S .non (.int p) = some false := rfl
@[simp] theorem eq_in (p : Int) : eqD S (.int p) .non = some false := rfl
@[simp] theorem eq_ns (p : Str) : eqD S .non (.str p) = some false := rfl
@[simp] theorem eq_sn (p : Str) : eqD S (.str p) .non = some false := rfl
@[simp] theorem eq_si (p : Str) (q : Int) : eqD S (.str p) (.int q) = some false := rfl
@[simp] theorem eq_is (p : Str) (q : Int) : eqD S (.int q) (.str p) = some false := rfl
@[simp] theorem is_non : pu2 (isD false) S d .non = some (.bl (match d with | .non => true | _ => false), S) := by cases d <;> rfl
@[simp] theorem isnot_non : pu2 (isD true) S d .non = some (.bl (match d with | .non => false | _ => true), S) := by cases d <;> rfl
@[simp] theorem is_bb (p q : Bool) : pu2 (isD false) S (.bl p) (.bl q) = some (.bl (decide (p = q)), S) := rfl
@[simp] theorem len_tup : lenD S [.tup l] = some (.int l.length, S) := rfl
@[simp] theorem len_lst : lenD S [.lst l] = some (.int l.length, S) := rfl
@[simp] theorem len_rol : lenD S [.rol l] = some (.int l.length, S) := rfl
@[simp] theorem abs_int (p : Int) : absD S [.int p] = some (.int (if p < 0 then -p else p), S) := rfl
@[simp] theorem list_tup : listD S [.tup l] = some (.lst l, S) := rfl
@[simp] theorem list_lst : listD S [.lst l] = some (.lst l, S) := rfl
@[simp] theorem tuple_tup : tupleD S [.tup l] = some (.tup l, S) := rfl
@[simp] theorem tuple_lst : tupleD S [.lst l] = some (.tup l, S) := rfl
def kIx (S : Sto) : Option Dv → Option (Dv × Sto)
  | some d => some (d, S)
  | none => none
@[simp] theorem kIx_some : kIx S (some d) = some (d, S) := rfl
@[simp] theorem ix_tup (n : Int) : ixD S (.tup l) (.int n) = kIx S (atI l n) := by show (atI l n).map _ = _; cases atI l n <;> rfl
@[simp] theorem ix_lst (n : Int) : ixD S (.lst l) (.int n) = kIx S (atI l n) := by show (atI l n).map _ = _; cases atI l n <;> rfl
@[simp] theorem ix_rol (n : Int) : ixD S (.rol l) (.int n) = kIx S (atI l n) := by show (atI l n).map _ = _; cases atI l n <;> rfl
@[simp] theorem ix_hdl (n : Int) : ixD S (.hdl k) (.int n) = kIx S (kIxL n (S[k]?)) := by
  simp only [ixD, asQ, asT, asL]; unfold kIxL; generalize S[k]? = z
  cases z with
  | none => rfl
  | some o => cases o with
    | lst l => simp only [Option.bind_some]; generalize atI l n = q; cases q <;> rfl
    | _ => rfl
@[simp] theorem atI_cons0 {γ : Type} (a : γ) (r : List γ) : atI (a :: r) 0 = some a := by unfold atI ixN; simp
theorem atI_nat' {γ : Type} (r : List γ) (m : Nat) : atI r (m : Int) = r[m]? := by
  unfold atI ixN
  rw [if_pos (by omega)]
  by_cases h : (m : Int) < r.length
  · rw [if_pos h]; simp
  · rw [if_neg h]; simp; omega
@[simp] theorem atI_lit1 {γ : Type} (r : List γ) : atI r 1 = r[1]? := atI_nat' r 1
@[simp] theorem atI_lit2 {γ : Type} (r : List γ) : atI r 2 = r[2]? := atI_nat' r 2
@[simp] theorem atI_lit3 {γ : Type} (r : List γ) : atI r 3 = r[3]? := atI_nat' r 3
@[simp] theorem atI_lit4 {γ : Type} (r : List γ) : atI r 4 = r[4]? := atI_nat' r 4
@[simp] theorem ixN_lit0 (m : Nat) : ixN (m + 1) 0 = some 0 := by unfold ixN; simp
theorem ixN_ok {m : Nat} {n : Int} (h0 : 0 ≤ n) (h1 : n < m) : ixN m n = some n.toNat := by unfold ixN; rw [if_pos h0, if_pos h1]
@[simp] theorem rngD_len (lo : Int) (n : Nat) : (rngD lo n).length = n := by unfold rngD; simp
@[simp] theorem ev_neg : eNeg f e S = bnd (f e S) negD := rfl
@[simp] theorem negD_int (p : Int) : negD (.int p) S = .ok (.int (-p)) S := rfl
/-- a def is run -/
def kRun : Out → Res Dv
  | .rt d S' => .ok d S'
  | .nx _ S' => .ok .non S'
  | .ex c fs _ S' => .ex c fs S'
  | _ => .no
theorem ev_run (np n : Nat) (h : l.length = np) : runF np n s S l = kRun (s (startE n l) S) := by
  unfold runF kRun
  rw [if_pos h]
  try (cases s (startE n l) S <;> rfl)
@[simp] theorem kRun_rt : kRun (.rt d S) = .ok d S := rfl
@[simp] theorem kRun_nx : kRun (.nx e S) = .ok .non S := rfl
@[simp] theorem kRun_ex : kRun (.ex c fs e S) = .ex c fs S := rfl
@[simp] theorem bnd_ex (k : α → Sto → Res β) : bnd (.ex c fs S) k = .ex c fs S := rfl
/-- cuts, parts -/
@[simp] theorem ev_onone : oNone e S = .ok none S := rfl
@[simp] theorem ev_osome : oSome f e S = bnd (f e S) oInt := rfl
@[simp] theorem oInt_int (p : Int) : oInt (.int p) S = .ok (some p) S := rfl
def kCut1 (lo hi : DO) (e : Env) (d : Dv) (S : Sto) : Res Dv := bnd (lo e S) fun l S2 => bnd (hi e S2) fun h S3 => ofO (cutD S3 d l h)
def kCut2 (hi : DO) (e : Env) (d : Dv) (l : Option Int) (S : Sto) : Res Dv := bnd (hi e S) fun h S3 => ofO (cutD S3 d l h)
def kCut3 (d : Dv) (l h : Option Int) (S : Sto) : Res Dv := ofO (cutD S d l h)
@[simp] theorem ev_cut (lo hi : DO) : eCut f lo hi e S = bnd (f e S) (kCut1 lo hi e) := rfl
@[simp] theorem ev_cut1 (lo hi : DO) : kCut1 lo hi e d S = bnd (lo e S) (kCut2 hi e d) := rfl
@[simp] theorem ev_cut2 (hi : DO) (z : Option Int) : kCut2 hi e d z S = bnd (hi e S) (kCut3 d z) := rfl
@[simp] theorem ev_cut3 (y z : Option Int) : kCut3 d y z S = ofO (cutD S d y z) := rfl
@[simp] theorem cut_tup (y z : Option Int) : cutD S (.tup l) y z = some (.tup (cutG l y z), S) := rfl
@[simp] theorem cut_lst (y z : Option Int) : cutD S (.lst l) y z = some (.lst (cutG l y z), S) := rfl
@[simp] theorem cut_rol (y z : Option Int) : cutD S (.rol l) y z = some (.lst (cutG l y z), S) := rfl
/-- texts walked, dicts, texts' methods -/
@[simp] theorem seqR_str (z : Str) : seqR (.str z) S = .ok (strL z) S := rfl
def kFzD (m : List (Key × Dv)) (S : Sto) : Res Dv := .ok (.dic m) S
@[simp] theorem ev_frzD (fd : DD) : eFrzD fd e S = bnd (fd e S) kFzD := rfl
@[simp] theorem ev_kfzD (m : List (Key × Dv)) : kFzD m S = .ok (.dic m) S := rfl
@[simp] theorem ev_dnil : dNil e S = .ok [] S := rfl
@[simp] theorem ev_pnil : pNil e S = .ok [] S := rfl
def kP1 (fv : DE) (fp : DP) (e : Env) (k : Dv) (S : Sto) : Res (List (Dv × Dv)) := bnd (fv e S) fun v S2 => bnd (fp e S2) fun l S3 => .ok ((k, v) :: l) S3
def kP2 (fp : DP) (e : Env) (k v : Dv) (S : Sto) : Res (List (Dv × Dv)) := bnd (fp e S) fun l S3 => .ok ((k, v) :: l) S3
def kP3 (k v : Dv) (m : List (Dv × Dv)) (S : Sto) : Res (List (Dv × Dv)) := .ok ((k, v) :: m) S
@[simp] theorem ev_pcons (fp : DP) : pCons f1 f2 fp e S = bnd (f1 e S) (kP1 f2 fp e) := rfl
@[simp] theorem ev_p1 (fp : DP) : kP1 f2 fp e d S = bnd (f2 e S) (kP2 fp e d) := rfl
@[simp] theorem ev_p2 (fp : DP) : kP2 fp e d1 d2 S = bnd (fp e S) (kP3 d1 d2) := rfl
@[simp] theorem ev_p3 (m : List (Dv × Dv)) : kP3 d1 d2 m S = .ok ((d1, d2) :: m) S := rfl
@[simp] theorem ev_disp (fp : DP) : dDisp fp e S = bnd (fp e S) kDisp := rfl
def kStr2 (h : Sto → Str → List Dv → Option (Dv × Sto)) (z : Str) (l : List Dv) (S : Sto) : Res Dv := ofO (h S z l)
@[simp] theorem ev_strM (h : Sto → Str → List Dv → Option (Dv × Sto)) : eStrM h f fa e S = bnd (f e S) (kStrM h fa e) := rfl
@[simp] theorem ev_kstrM (h : Sto → Str → List Dv → Option (Dv × Sto)) (z : Str) : kStrM h fa e (.str z) S = bnd (fa e S) (kStr2 h z) := rfl
@[simp] theorem ev_kstr2 (h : Sto → Str → List Dv → Option (Dv × Sto)) (z : Str) : kStr2 h z l S = ofO (h S z l) := rfl
def kLenO (S : Sto) : Option Sl → Res Dv
  | some (.own (.lst l)) => .ok (.int l.length) S
  | _ => .no
@[simp] theorem ev_lenO : eLenO i e S = kLenO S (e[i]?) := by unfold eLenO kLenO; rcases e[i]? with _ | (_ | _ | (l | _ | _ | _ | _)) <;> rfl
@[simp] theorem kLenO_ow : kLenO S (some (.ow l)) = .ok (.int l.length) S := rfl
def kHd (i : Nat) (e : Env) (S : Sto) : Option Sl → Out
  | some (.own o) => .nx (e.set i (.va (.hdl S.length))) (S ++ [o])
  | _ => .no
@[simp] theorem ev_shdl : sHdl i e S = kHd i e S (e[i]?) := by unfold sHdl kHd; cases e[i]? with
  | none => rfl
  | some s => cases s <;> rfl
@[simp] theorem kHd_ow (o : Ob) : kHd i e S (some (.own o)) = .nx (e.set i (.va (.hdl S.length))) (S ++ [o]) := rfl
theorem qOwnM_ins (n : Int) (h : l.length < sizeLine ∧ 0 ≤ n ∧ n < 2 ^ 63) : qOwnM insD i l e [.int n, d] S = .nx (e.set i (.ow (l.take n.toNat ++ [d] ++ l.drop n.toNat))) S := by unfold qOwnM insD; simp only [if_pos h]
def kHM1 (h : List Dv → List Dv → Option (List Dv × Dv)) (fa : DA) (e : Env) (o : Dv) (S : Sto) : Res Dv := if lstHd S o then bnd (fa e S) fun as S2 => hdlM h S2 o as else .no
def kHM2 (h : List Dv → List Dv → Option (List Dv × Dv)) (o : Dv) (as : List Dv) (S : Sto) : Res Dv := hdlM h S o as
def kHM3 (h : List Dv → List Dv → Option (List Dv × Dv)) (fa : DA) (e : Env) (o : Dv) (S : Sto) (b : Bool) : Res Dv := if b then bnd (fa e S) (kHM2 h o) else .no
@[simp] theorem ev_hdlM (h : List Dv → List Dv → Option (List Dv × Dv)) : eHdlM h f fa e S = bnd (f e S) (kHM1 h fa e) := rfl
@[simp] theorem ev_khm1 (h : List Dv → List Dv → Option (List Dv × Dv)) : kHM1 h fa e d S = kHM3 h fa e d S (lstHd S d) := rfl
@[simp] theorem ev_khm3 (h : List Dv → List Dv → Option (List Dv × Dv)) : kHM3 h fa e d S true = bnd (fa e S) (kHM2 h d) := rfl
@[simp] theorem ev_khm2 (h : List Dv → List Dv → Option (List Dv × Dv)) : kHM2 h d l S = hdlM h S d l := rfl
def kLh : Option Ob → Bool
  | some (.lst _) => true
  | _ => false
@[simp] theorem lstHd_hdl : lstHd S (.hdl k) = kLh (S[k]?) := by simp only [lstHd]; unfold kLh; generalize S[k]? = z; cases z with
  | none => rfl
  | some o => cases o <;> rfl
@[simp] theorem kLh_lst : kLh (some (.lst l)) = true := rfl
theorem hdlM_app (h1 : S[k]? = some (.lst l)) (h2 : l.length < sizeLine) : hdlM appD S (.hdl k) [d] = .ok .non (S.set k (.lst (l ++ [d]))) := by simp only [hdlM, h1, appD, if_pos h2]
end
section
variable {α β : Type} (S S' : Sto) (e : Env) (d d1 d2 d3 : Dv) (l l' : List Dv) (f f1 f2 f3 fo fi fv : DE) (t t1 t2 : DT) (fa : DA) (fl : DL) (fn : DN) (fdd : DD) (fb : DB) (s s1 s2 : DS) (o : Ob) (ss : List Sl) (i j k : Nat) (b : Bool) (c : Str) (fs : List (Str × Dv)) (m : List (Key × Dv))
/-- what may be own -/
def kAny (S : Sto) : Option Sl → Res Dv
  | some (.own o) => .ok (vwO o) S
  | some (.va d) => .ok d S
  | _ => .no
@[simp] theorem ev_any : eAny i e S = kAny S (e[i]?) := by unfold eAny kAny; rfl
@[simp] theorem kAny_va : kAny S (some (.va d)) = .ok d S := rfl
@[simp] theorem kAny_ow : kAny S (some (.ow l)) = .ok (.lst l) S := rfl
@[simp] theorem kAny_od : kAny S (some (.od m)) = .ok (.dic m) S := rfl
def kFy (i : Nat) (e : Env) (S : Sto) : Option Sl → Out
  | some (.own o) => .nx (e.set i (.va (frzO o))) S
  | some (.va _) => .nx e S
  | _ => .no
@[simp] theorem ev_sfz : sFz i e S = kFy i e S (e[i]?) := by unfold sFz kFy; rfl
@[simp] theorem kFy_va : kFy i e S (some (.va d)) = .nx e S := rfl
@[simp] theorem kFy_ow : kFy i e S (some (.ow l)) = .nx (e.set i (.va (.lst l))) S := rfl
@[simp] theorem kFy_od : kFy i e S (some (.od m)) = .nx (e.set i (.va (.dic m))) S := rfl
/-- new things -/
def kNL (l : List Dv) (S : Sto) : Res Ob := .ok (.lst l) S
@[simp] theorem ev_nL : nL fl e S = bnd (fl e S) kNL := rfl
@[simp] theorem ev_kNL : kNL l S = .ok (.lst l) S := rfl
def kND (l : List (Key × Dv)) (S : Sto) : Res Ob := .ok (.dct l) S
@[simp] theorem ev_nD : nD fdd e S = bnd (fdd e S) kND := rfl
@[simp] theorem ev_kND : kND m S = .ok (.dct m) S := rfl
def kFN (o : Ob) (S : Sto) : Res Dv := .ok (frzO o) S
@[simp] theorem ev_frzN : eFrzN fn e S = bnd (fn e S) kFN := rfl
@[simp] theorem ev_kFN : kFN o S = .ok (frzO o) S := rfl
@[simp] theorem frzO_l : frzO (.lst l) = .lst l := rfl
@[simp] theorem frzO_d : frzO (.dct m) = .dic m := rfl
@[simp] theorem frzO_i : frzO (.ins c fs) = .obj c fs := rfl
def kHN (o : Ob) (S : Sto) : Res Dv := .ok (.hdl S.length) (S ++ [o])
@[simp] theorem ev_hdlN : eHdlN fn e S = bnd (fn e S) kHN := rfl
@[simp] theorem ev_kHN : kHN o S = .ok (.hdl S.length) (S ++ [o]) := rfl
def qOwnN (i : Nat) (e : Env) (o : Ob) (S : Sto) : Out := .nx (e.set i (.own o)) S
@[simp] theorem ev_ownN : sOwnN i fn e S = kS (qOwnN i) e (fn e S) := ev_sbind ..
@[simp] theorem ev_qownN : qOwnN i e o S = .nx (e.set i (.own o)) S := rfl
@[simp] theorem ev_bnil : bNil e S = .ok [] S := rfl
def kB1' (fb : DB) (e : Env) (d : Dv) (S : Sto) : Res (List Sl) := bnd (fb e S) fun l S2 => .ok (.va d :: l) S2
def kB2' (d : Dv) (l : List Sl) (S : Sto) : Res (List Sl) := .ok (.va d :: l) S
def kB3' (fb : DB) (e : Env) (o : Ob) (S : Sto) : Res (List Sl) := bnd (fb e S) fun l S2 => .ok (.own o :: l) S2
def kB4' (o : Ob) (l : List Sl) (S : Sto) : Res (List Sl) := .ok (.own o :: l) S
@[simp] theorem ev_bva : bVa f fb e S = bnd (f e S) (kB1' fb e) := rfl
@[simp] theorem ev_bown : bOwn fn fb e S = bnd (fn e S) (kB3' fb e) := rfl
@[simp] theorem ev_b1' : kB1' fb e d S = bnd (fb e S) (kB2' d) := rfl
@[simp] theorem ev_b2' : kB2' d ss S = .ok (.va d :: ss) S := rfl
@[simp] theorem ev_b3' : kB3' fb e o S = bnd (fb e S) (kB4' o) := rfl
@[simp] theorem ev_b4' : kB4' o ss S = .ok (.own o :: ss) S := rfl
def qParB (is : List Nat) (e : Env) (ss : List Sl) (S : Sto) : Out := if ss.length = is.length then .nx (setSs is ss e) S else .no
@[simp] theorem ev_parB (is : List Nat) : sParB is fb e S = kS (qParB is) e (fb e S) := ev_sbind ..
@[simp] theorem ev_qparB2 (s1 s2 : Sl) : qParB [i, j] e [s1, s2] S = .nx ((e.set i s1).set j s2) S := rfl
@[simp] theorem ev_qparB3 (s1 s2 s3 : Sl) : qParB [i, j, k] e [s1, s2, s3] S = .nx (((e.set i s1).set j s2).set k s3) S := rfl
def qSO3 (i : Nat) (l : List Dv) (v : Dv) (e : Env) (S : Sto) : Option Nat → Out
  | some j => .nx (e.set i (.ow (l.set j v))) S
  | none => .no
def qSO2 (i : Nat) (l : List Dv) (v : Dv) (e : Env) (n : Dv) (S : Sto) : Out := match n with
  | .int n => qSO3 i l v e S (ixN l.length n)
  | _ => .no
def qSO1 (i : Nat) (fi : DE) (v : Dv) (e : Env) (S : Sto) : Option Sl → Out
  | some (.own (.lst l)) => kS (qSO2 i l v) e (fi e S)
  | _ => .no
def qSO (i : Nat) (fi : DE) (e : Env) (v : Dv) (S : Sto) : Out := qSO1 i fi v e S (e[i]?)
@[simp] theorem ev_setO : sSetO i fi fv e S = kS (qSO i fi) e (fv e S) := by
  unfold sSetO
  rw [ev_sbind]
  congr 1
@[simp] theorem ev_qSO : qSO i fi e d S = qSO1 i fi d e S (e[i]?) := rfl
@[simp] theorem ev_qSO1 : qSO1 i fi d e S (some (.ow l)) = kS (qSO2 i l d) e (fi e S) := rfl
@[simp] theorem ev_qSO2 (n : Int) : qSO2 i l d e (.int n) S = qSO3 i l d e S (ixN l.length n) := rfl
@[simp] theorem ev_qSO3 : qSO3 i l d e S (some j) = .nx (e.set i (.ow (l.set j d))) S := rfl
@[simp] theorem ev_fList : fList fa e S = bnd (fa e S) listK := rfl
@[simp] theorem listK_tup : listK [.tup l] S = .ok l S := rfl
@[simp] theorem listK_lst : listK [.lst l] S = .ok l S := rfl
@[simp] theorem listK_rol : listK [.rol l] S = .ok l S := rfl
/-- chains, ranges asked -/
def kC1 (h h' : Sto → Dv → Dv → Option (Dv × Sto)) (f2 f3 : DE) (e : Env) (a : Dv) (S : Sto) : Res Dv := bnd (f2 e S) fun b S2 => bnd (ofO (h S2 a b)) fun z S3 => match z with
  | .bl true => bnd (f3 e S3) fun c S4 => ofO (h' S4 b c)
  | .bl false => .ok (.bl false) S3
  | _ => .no
def kC3 (h' : Sto → Dv → Dv → Option (Dv × Sto)) (f3 : DE) (e : Env) (b : Dv) (z : Dv) (S : Sto) : Res Dv := match z with
  | .bl true => bnd (f3 e S) (kB2 h' b)
  | .bl false => .ok (.bl false) S
  | _ => .no
def kC2 (h h' : Sto → Dv → Dv → Option (Dv × Sto)) (f3 : DE) (e : Env) (a b : Dv) (S : Sto) : Res Dv := bnd (ofO (h S a b)) (kC3 h' f3 e b)
@[simp] theorem ev_chn (h h' : Sto → Dv → Dv → Option (Dv × Sto)) : eChn h h' f1 f2 f3 e S = bnd (f1 e S) (kC1 h h' f2 f3 e) := rfl
@[simp] theorem ev_c1 (h h' : Sto → Dv → Dv → Option (Dv × Sto)) : kC1 h h' f2 f3 e d S = bnd (f2 e S) (kC2 h h' f3 e d) := by
  unfold kC1
  congr 1
@[simp] theorem ev_c2 (h h' : Sto → Dv → Dv → Option (Dv × Sto)) : kC2 h h' f3 e d1 d2 S = bnd (ofO (h S d1 d2)) (kC3 h' f3 e d2) := rfl
@[simp] theorem ev_c3t (h' : Sto → Dv → Dv → Option (Dv × Sto)) : kC3 h' f3 e d (.bl true) S = bnd (f3 e S) (kB2 h' d) := rfl
@[simp] theorem ev_c3f (h' : Sto → Dv → Dv → Option (Dv × Sto)) : kC3 h' f3 e d (.bl false) S = .ok (.bl false) S := rfl
def kR1 (neg : Bool) (fa : DA) (e : Env) (a : Dv) (S : Sto) : Res Dv := bnd (fa e S) fun l S2 => rngK neg a l S2
@[simp] theorem ev_rngIn : eRngIn b f1 fa e S = bnd (f1 e S) (kR1 b fa e) := rfl
@[simp] theorem ev_kR1 : kR1 b fa e d S = bnd (fa e S) (rngK b d) := rfl
@[simp] theorem rngK_f (p lo hi : Int) : rngK false (.int p) [.int lo, .int hi] S = .ok (.bl (decide (lo ≤ p ∧ p < hi))) S := rfl
@[simp] theorem rngK_t (p lo hi : Int) : rngK true (.int p) [.int lo, .int hi] S = .ok (.bl (!decide (lo ≤ p ∧ p < hi))) S := rfl
/-- a name that stands for a def -/
def kCL (t : Str → Option DF) (fa : DA) (e : Env) (S : Sto) : Option Sl → Res Dv
  | some (.va (.glo x)) => match t x with
    | some g => bnd (fa e S) (kCall g)
    | none => .no
  | _ => .no
@[simp] theorem ev_callL (t : Str → Option DF) : eCallL t i fa e S = kCL t fa e S (e[i]?) := by unfold eCallL kCL; rfl
end
end DL
namespace DL
open PySem L2
section
variable (S : Sto) (b : Bool) (p : Int) (x : Str) (l : List Dv) (m : List (Key × Dv)) (k : Nat)
theorem kit_NoneType_str : kitB "NoneType" "str" = some false := by decide +kernel
theorem kit_NoneType_int : kitB "NoneType" "int" = some false := by decide +kernel
theorem kit_NoneType_bool : kitB "NoneType" "bool" = some false := by decide +kernel
theorem kit_NoneType_tuple : kitB "NoneType" "tuple" = some false := by decide +kernel
theorem kit_NoneType_list : kitB "NoneType" "list" = some false := by decide +kernel
theorem kit_NoneType_dict : kitB "NoneType" "dict" = some false := by decide +kernel
theorem kit_bool_str : kitB "bool" "str" = some false := by decide +kernel
theorem kit_bool_int : kitB "bool" "int" = some true := by decide +kernel
theorem kit_bool_bool : kitB "bool" "bool" = some true := by decide +kernel
theorem kit_bool_tuple : kitB "bool" "tuple" = some false := by decide +kernel
theorem kit_bool_list : kitB "bool" "list" = some false := by decide +kernel
theorem kit_bool_dict : kitB "bool" "dict" = some false := by decide +kernel
theorem kit_int_str : kitB "int" "str" = some false := by decide +kernel
theorem kit_int_int : kitB "int" "int" = some true := by decide +kernel
theorem kit_int_bool : kitB "int" "bool" = some false := by decide +kernel
theorem kit_int_tuple : kitB "int" "tuple" = some false := by decide +kernel
theorem kit_int_list : kitB "int" "list" = some false := by decide +kernel
theorem kit_int_dict : kitB "int" "dict" = some false := by decide +kernel
theorem kit_str_str : kitB "str" "str" = some true := by decide +kernel
theorem kit_str_int : kitB "str" "int" = some false := by decide +kernel
theorem kit_str_bool : kitB "str" "bool" = some false := by decide +kernel
theorem kit_str_tuple : kitB "str" "tuple" = some false := by decide +kernel
theorem kit_str_list : kitB "str" "list" = some false := by decide +kernel
theorem kit_str_dict : kitB "str" "dict" = some false := by decide +kernel
theorem kit_tuple_str : kitB "tuple" "str" = some false := by decide +kernel
theorem kit_tuple_int : kitB "tuple" "int" = some false := by decide +kernel
theorem kit_tuple_bool : kitB "tuple" "bool" = some false := by decide +kernel
theorem kit_tuple_tuple : kitB "tuple" "tuple" = some true := by decide +kernel
theorem kit_tuple_list : kitB "tuple" "list" = some false := by decide +kernel
theorem kit_tuple_dict : kitB "tuple" "dict" = some false := by decide +kernel
theorem kit_list_str : kitB "list" "str" = some false := by decide +kernel
theorem kit_list_int : kitB "list" "int" = some false := by decide +kernel
theorem kit_list_bool : kitB "list" "bool" = some false := by decide +kernel
theorem kit_list_tuple : kitB "list" "tuple" = some false := by decide +kernel
theorem kit_list_list : kitB "list" "list" = some true := by decide +kernel
theorem kit_list_dict : kitB "list" "dict" = some false := by decide +kernel
theorem kit_dict_str : kitB "dict" "str" = some false := by decide +kernel
theorem kit_dict_int : kitB "dict" "int" = some false := by decide +kernel
theorem kit_dict_bool : kitB "dict" "bool" = some false := by decide +kernel
theorem kit_dict_tuple : kitB "dict" "tuple" = some false := by decide +kernel
theorem kit_dict_list : kitB "dict" "list" = some false := by decide +kernel
theorem kit_dict_dict : kitB "dict" "dict" = some true := by decide +kernel
@[simp] theorem isi_non_str : isiD S [.non, .ty "str"] = some (.bl false, S) := by simp only [isiD, tyD, Option.bind_some, kit_NoneType_str, Option.map_some]
@[simp] theorem isi_non_int : isiD S [.non, .ty "int"] = some (.bl false, S) := by simp only [isiD, tyD, Option.bind_some, kit_NoneType_int, Option.map_some]
@[simp] theorem isi_non_bool : isiD S [.non, .ty "bool"] = some (.bl false, S) := by simp only [isiD, tyD, Option.bind_some, kit_NoneType_bool, Option.map_some]
@[simp] theorem isi_non_tuple : isiD S [.non, .ty "tuple"] = some (.bl false, S) := by simp only [isiD, tyD, Option.bind_some, kit_NoneType_tuple, Option.map_some]
@[simp] theorem isi_non_list : isiD S [.non, .ty "list"] = some (.bl false, S) := by simp only [isiD, tyD, Option.bind_some, kit_NoneType_list, Option.map_some]
@[simp] theorem isi_non_dict : isiD S [.non, .ty "dict"] = some (.bl false, S) := by simp only [isiD, tyD, Option.bind_some, kit_NoneType_dict, Option.map_some]
@[simp] theorem isi_non_tl : isiD S [.non, .tup [.ty "tuple", .ty "list"]] = some (.bl false, S) := by simp [isiD, tyD, kitD, tysOf, kitS, kit_NoneType_tuple, kit_NoneType_list]
@[simp] theorem isi_bl_str : isiD S [(.bl b), .ty "str"] = some (.bl false, S) := by simp only [isiD, tyD, Option.bind_some, kit_bool_str, Option.map_some]
@[simp] theorem isi_bl_int : isiD S [(.bl b), .ty "int"] = some (.bl true, S) := by simp only [isiD, tyD, Option.bind_some, kit_bool_int, Option.map_some]
@[simp] theorem isi_bl_bool : isiD S [(.bl b), .ty "bool"] = some (.bl true, S) := by simp only [isiD, tyD, Option.bind_some, kit_bool_bool, Option.map_some]
@[simp] theorem isi_bl_tuple : isiD S [(.bl b), .ty "tuple"] = some (.bl false, S) := by simp only [isiD, tyD, Option.bind_some, kit_bool_tuple, Option.map_some]
@[simp] theorem isi_bl_list : isiD S [(.bl b), .ty "list"] = some (.bl false, S) := by simp only [isiD, tyD, Option.bind_some, kit_bool_list, Option.map_some]
@[simp] theorem isi_bl_dict : isiD S [(.bl b), .ty "dict"] = some (.bl false, S) := by simp only [isiD, tyD, Option.bind_some, kit_bool_dict, Option.map_some]
@[simp] theorem isi_bl_tl : isiD S [(.bl b), .tup [.ty "tuple", .ty "list"]] = some (.bl false, S) := by simp [isiD, tyD, kitD, tysOf, kitS, kit_bool_tuple, kit_bool_list]
@[simp] theorem isi_int_str : isiD S [(.int p), .ty "str"] = some (.bl false, S) := by simp only [isiD, tyD, Option.bind_some, kit_int_str, Option.map_some]
@[simp] theorem isi_int_int : isiD S [(.int p), .ty "int"] = some (.bl true, S) := by simp only [isiD, tyD, Option.bind_some, kit_int_int, Option.map_some]
@[simp] theorem isi_int_bool : isiD S [(.int p), .ty "bool"] = some (.bl false, S) := by simp only [isiD, tyD, Option.bind_some, kit_int_bool, Option.map_some]
@[simp] theorem isi_int_tuple : isiD S [(.int p), .ty "tuple"] = some (.bl false, S) := by simp only [isiD, tyD, Option.bind_some, kit_int_tuple, Option.map_some]
@[simp] theorem isi_int_list : isiD S [(.int p), .ty "list"] = some (.bl false, S) := by simp only [isiD, tyD, Option.bind_some, kit_int_list, Option.map_some]
@[simp] theorem isi_int_dict : isiD S [(.int p), .ty "dict"] = some (.bl false, S) := by simp only [isiD, tyD, Option.bind_some, kit_int_dict, Option.map_some]
@[simp] theorem isi_int_tl : isiD S [(.int p), .tup [.ty "tuple", .ty "list"]] = some (.bl false, S) := by simp [isiD, tyD, kitD, tysOf, kitS, kit_int_tuple, kit_int_list]
@[simp] theorem isi_str_str : isiD S [(.str x), .ty "str"] = some (.bl true, S) := by simp only [isiD, tyD, Option.bind_some, kit_str_str, Option.map_some]
@[simp] theorem isi_str_int : isiD S [(.str x), .ty "int"] = some (.bl false, S) := by simp only [isiD, tyD, Option.bind_some, kit_str_int, Option.map_some]
@[simp] theorem isi_str_bool : isiD S [(.str x), .ty "bool"] = some (.bl false, S) := by simp only [isiD, tyD, Option.bind_some, kit_str_bool, Option.map_some]
@[simp] theorem isi_str_tuple : isiD S [(.str x), .ty "tuple"] = some (.bl false, S) := by simp only [isiD, tyD, Option.bind_some, kit_str_tuple, Option.map_some]
@[simp] theorem isi_str_list : isiD S [(.str x), .ty "list"] = some (.bl false, S) := by simp only [isiD, tyD, Option.bind_some, kit_str_list, Option.map_some]
@[simp] theorem isi_str_dict : isiD S [(.str x), .ty "dict"] = some (.bl false, S) := by simp only [isiD, tyD, Option.bind_some, kit_str_dict, Option.map_some]
@[simp] theorem isi_str_tl : isiD S [(.str x), .tup [.ty "tuple", .ty "list"]] = some (.bl false, S) := by simp [isiD, tyD, kitD, tysOf, kitS, kit_str_tuple, kit_str_list]
@[simp] theorem isi_tup_str : isiD S [(.tup l), .ty "str"] = some (.bl false, S) := by simp only [isiD, tyD, Option.bind_some, kit_tuple_str, Option.map_some]
@[simp] theorem isi_tup_int : isiD S [(.tup l), .ty "int"] = some (.bl false, S) := by simp only [isiD, tyD, Option.bind_some, kit_tuple_int, Option.map_some]
@[simp] theorem isi_tup_bool : isiD S [(.tup l), .ty "bool"] = some (.bl false, S) := by simp only [isiD, tyD, Option.bind_some, kit_tuple_bool, Option.map_some]
@[simp] theorem isi_tup_tuple : isiD S [(.tup l), .ty "tuple"] = some (.bl true, S) := by simp only [isiD, tyD, Option.bind_some, kit_tuple_tuple, Option.map_some]
@[simp] theorem isi_tup_list : isiD S [(.tup l), .ty "list"] = some (.bl false, S) := by simp only [isiD, tyD, Option.bind_some, kit_tuple_list, Option.map_some]
@[simp] theorem isi_tup_dict : isiD S [(.tup l), .ty "dict"] = some (.bl false, S) := by simp only [isiD, tyD, Option.bind_some, kit_tuple_dict, Option.map_some]
@[simp] theorem isi_tup_tl : isiD S [(.tup l), .tup [.ty "tuple", .ty "list"]] = some (.bl true, S) := by simp [isiD, tyD, kitD, tysOf, kitS, kit_tuple_tuple, kit_tuple_list]
@[simp] theorem isi_lst_str : isiD S [(.lst l), .ty "str"] = some (.bl false, S) := by simp only [isiD, tyD, Option.bind_some, kit_list_str, Option.map_some]
@[simp] theorem isi_lst_int : isiD S [(.lst l), .ty "int"] = some (.bl false, S) := by simp only [isiD, tyD, Option.bind_some, kit_list_int, Option.map_some]
@[simp] theorem isi_lst_bool : isiD S [(.lst l), .ty "bool"] = some (.bl false, S) := by simp only [isiD, tyD, Option.bind_some, kit_list_bool, Option.map_some]
@[simp] theorem isi_lst_tuple : isiD S [(.lst l), .ty "tuple"] = some (.bl false, S) := by simp only [isiD, tyD, Option.bind_some, kit_list_tuple, Option.map_some]
@[simp] theorem isi_lst_list : isiD S [(.lst l), .ty "list"] = some (.bl true, S) := by simp only [isiD, tyD, Option.bind_some, kit_list_list, Option.map_some]
@[simp] theorem isi_lst_dict : isiD S [(.lst l), .ty "dict"] = some (.bl false, S) := by simp only [isiD, tyD, Option.bind_some, kit_list_dict, Option.map_some]
@[simp] theorem isi_lst_tl : isiD S [(.lst l), .tup [.ty "tuple", .ty "list"]] = some (.bl true, S) := by simp [isiD, tyD, kitD, tysOf, kitS, kit_list_tuple, kit_list_list]
@[simp] theorem isi_rol_str : isiD S [(.rol l), .ty "str"] = some (.bl false, S) := by simp only [isiD, tyD, Option.bind_some, kit_list_str, Option.map_some]
@[simp] theorem isi_rol_int : isiD S [(.rol l), .ty "int"] = some (.bl false, S) := by simp only [isiD, tyD, Option.bind_some, kit_list_int, Option.map_some]
@[simp] theorem isi_rol_bool : isiD S [(.rol l), .ty "bool"] = some (.bl false, S) := by simp only [isiD, tyD, Option.bind_some, kit_list_bool, Option.map_some]
@[simp] theorem isi_rol_tuple : isiD S [(.rol l), .ty "tuple"] = some (.bl false, S) := by simp only [isiD, tyD, Option.bind_some, kit_list_tuple, Option.map_some]
@[simp] theorem isi_rol_list : isiD S [(.rol l), .ty "list"] = some (.bl true, S) := by simp only [isiD, tyD, Option.bind_some, kit_list_list, Option.map_some]
@[simp] theorem isi_rol_dict : isiD S [(.rol l), .ty "dict"] = some (.bl false, S) := by simp only [isiD, tyD, Option.bind_some, kit_list_dict, Option.map_some]
@[simp] theorem isi_rol_tl : isiD S [(.rol l), .tup [.ty "tuple", .ty "list"]] = some (.bl true, S) := by simp [isiD, tyD, kitD, tysOf, kitS, kit_list_tuple, kit_list_list]
@[simp] theorem isi_dic_str : isiD S [(.dic m), .ty "str"] = some (.bl false, S) := by simp only [isiD, tyD, Option.bind_some, kit_dict_str, Option.map_some]
@[simp] theorem isi_dic_int : isiD S [(.dic m), .ty "int"] = some (.bl false, S) := by simp only [isiD, tyD, Option.bind_some, kit_dict_int, Option.map_some]
@[simp] theorem isi_dic_bool : isiD S [(.dic m), .ty "bool"] = some (.bl false, S) := by simp only [isiD, tyD, Option.bind_some, kit_dict_bool, Option.map_some]
@[simp] theorem isi_dic_tuple : isiD S [(.dic m), .ty "tuple"] = some (.bl false, S) := by simp only [isiD, tyD, Option.bind_some, kit_dict_tuple, Option.map_some]
@[simp] theorem isi_dic_list : isiD S [(.dic m), .ty "list"] = some (.bl false, S) := by simp only [isiD, tyD, Option.bind_some, kit_dict_list, Option.map_some]
@[simp] theorem isi_dic_dict : isiD S [(.dic m), .ty "dict"] = some (.bl true, S) := by simp only [isiD, tyD, Option.bind_some, kit_dict_dict, Option.map_some]
@[simp] theorem isi_dic_tl : isiD S [(.dic m), .tup [.ty "tuple", .ty "list"]] = some (.bl false, S) := by simp [isiD, tyD, kitD, tysOf, kitS, kit_dict_tuple, kit_dict_list]
/-- a turn of a for -/
theorem forR_nx {gd : DG} {body : DS} {d : Dv} {ds : List Dv} {e e1 e2 : Env} {S S1 : Sto} (h1 : gd d e = some e1) (h2 : body e1 S = .nx e2 S1) : forR gd body (d :: ds) e S = forR gd body ds e2 S1 := by simp only [forR, h1, h2]
theorem forR_rt {gd : DG} {body : DS} {d r : Dv} {ds : List Dv} {e e1 : Env} {S S1 : Sto} (h1 : gd d e = some e1) (h2 : body e1 S = .rt r S1) : forR gd body (d :: ds) e S = .rt r S1 := by simp only [forR, h1, h2]
theorem kLcEnd' (h : l.length ≤ 16777216) : kLcEnd (.ok l S) = .ok l S := kLcEnd_ok S l (by rw [sizeLine_eq]; exact h)
theorem lcR_t {tg : DG} {tt : DT} {te : DE} {e e1 : Env} {d y : Dv} {ds l : List Dv} {S S1 S2 S3 : Sto} (h1 : tg d e = some e1) (h2 : tt e1 S = .ok true S1) (h3 : te e1 S1 = .ok y S2) (h4 : lcR tg tt te e ds S2 = .ok l S3) : lcR tg tt te e (d :: ds) S = .ok (y :: l) S3 := by simp only [lcR, h1, h2, h3, h4, if_true]
end
end DL
namespace TX
open PySem PySem.Spec PyProof.Rows L2
def ltS (a b : Str) : Prop := a.cps.toList < b.cps.toList
instance (a b : Str) : Decidable (ltS a b) := inferInstanceAs (Decidable (a.cps.toList < b.cps.toList))
def insS (x : Str) : List Str → List Str
  | [] => [x]
  | y :: r => if x = y then y :: r else if ltS x y then x :: y :: r else y :: insS x r
def srtS (l : List Str) : List Str := l.foldr insS []
end TX
namespace DL
open PySem L2
def strsD : List Dv → Option (List Str)
  | [] => some []
  | .str x :: l => (strsD l).map (x :: ·)
  | _ :: _ => none
/-- sorted(set(x)), x a list of texts -/
def srtSetK (l : List Dv) (S : Sto) : Res (List Dv) := match l with
  | [d] => match (asL S d).bind strsD with
    | some ws => if ws.length ≤ 4000 then .ok ((TX.srtS ws).map Dv.str) S else .no
    | none => .no
  | _ => .no
def fSrtSet (fa : DA) : DL := fun e S => bnd (fa e S) srtSetK
end DL
namespace DL
open PySem L2
/-- sorted(set(x)) as it is run -/
@[simp] theorem ev_srtSet (fa : DA) (e : Env) (S : Sto) : fSrtSet fa e S = bnd (fa e S) srtSetK := rfl
end DL
namespace DL
open PySem L2
section
variable (S S' : Sto) (e : Env) (d d1 d2 d3 : Dv) (l l' : List Dv) (f f1 f2 f3 fo fi fv : DE) (fa : DA) (fl fl1 : DL) (c m x : Str) (g : DF) (k i j : Nat)
@[simp] theorem ev_fld : eFld c x f e S = bnd (f e S) (kFld c x) := rfl
def kFld2 (S : Sto) : Option Dv → Res Dv
  | some x => .ok x S
  | none => .no
@[simp] theorem kFld_obj (fs : List (Str × Dv)) : kFld c x (.obj c fs) S = kFld2 S (fs.lookup x) := by
  simp only [kFld, insOf, if_true]; unfold kFld2; cases fs.lookup x <;> rfl
@[simp] theorem kFld2_some : kFld2 S (some d) = .ok d S := rfl
theorem kFld_hdl {fs : List (Str × Dv)} (h : S[k]? = some (.ins c fs)) : kFld c x (.hdl k) S = kFld2 S (fs.lookup x) := by
  simp only [kFld, insOf, h, if_true]; unfold kFld2; cases fs.lookup x <;> rfl
@[simp] theorem ev_meth (dl : List Dv) : eMeth c m dl g fo fa e S = bnd (fo e S) (kMeth c m dl g fa e) := rfl
def kMe2 (dl : List Dv) (g : DF) (d : Dv) (as : List Dv) (S : Sto) : Res Dv := g S (d :: (as ++ dl))
@[simp] theorem ev_me2 (dl as : List Dv) : kMe2 dl g d as S = g S (d :: (as ++ dl)) := rfl
def kCm (c : Str) (g : DF) (l : List Dv) (S : Sto) : Res Dv := g S (.glo c :: l)
@[simp] theorem ev_cm : eCm c g fa e S = bnd (fa e S) (kCm c g) := rfl
@[simp] theorem ev_kcm : kCm c g l S = g S (.glo c :: l) := rfl
@[simp] theorem ev_tab (t : List (Str × Dv)) : eTab t f e S = bnd (f e S) (tabD t) := rfl
def kTab2 (S : Sto) : Option Dv → Res Dv
  | some x => .ok x S
  | none => .no
@[simp] theorem tabD_str (t : List (Str × Dv)) (z : Str) : tabD t (.str z) S = kTab2 S (t.lookup z) := by simp only [tabD]; unfold kTab2; cases t.lookup z <;> rfl
@[simp] theorem kTab2_some : kTab2 S (some d) = .ok d S := rfl
@[simp] theorem ev_zip : iZip' fa e S = bnd (fa e S) zipR := rfl
@[simp] theorem ev_enum : iEnum' fa e S = bnd (fa e S) enumR := rfl
@[simp] theorem zipR_tt : zipR [.tup l, .tup l'] S = .ok (zipD l l') S := rfl
@[simp] theorem zipR_tl : zipR [.tup l, .lst l'] S = .ok (zipD l l') S := rfl
@[simp] theorem zipR_lt : zipR [.lst l, .tup l'] S = .ok (zipD l l') S := rfl
@[simp] theorem zipR_ll : zipR [.lst l, .lst l'] S = .ok (zipD l l') S := rfl
@[simp] theorem enumR_t : enumR [.tup l] S = .ok (enumD l) S := rfl
@[simp] theorem enumR_l : enumR [.lst l] S = .ok (enumD l) S := rfl
@[simp] theorem ev_ddict : dDict fa e S = bnd (fa e S) dictK := rfl
@[simp] theorem ev_revT : eRevT f e S = bnd (f e S) revD := rfl
end
end DL
namespace DL
open PySem L2
end DL
namespace DL
open PySem L2
theorem deep_same {S : Sto} {a b : Dv} {p : PyData} (ha : toP (res S a) = some p) (hb : toP (res S b) = some p) (hp : SeqAt.shaped p = true) : deepE S a b = some true := by
  unfold deepE
  rw [ha, hb]
  simp only [Option.bind_some, hp, Bool.and_self, if_true]
  rw [PySem.SeqAt.eqv_refl p (SeqAt.canLay_of_shaped hp)]
def Rp (d : Dv) (p : PyData) : Prop := ∀ m S, toP (deref m S d) = some p
def Rps (l : List Dv) (ps : List PyData) : Prop := ∀ m S, toPs (l.map (deref m S)) = some ps
theorem rps_nil : Rps [] [] := fun _ _ => rfl
theorem rps_cons {d : Dv} {l : List Dv} {p : PyData} {ps : List PyData} (h1 : Rp d p) (h2 : Rps l ps) : Rps (d :: l) (p :: ps) := fun m S => by
  rw [List.map_cons]
  unfold toPs
  rw [h1 m S, h2 m S]
  rfl
theorem rp_int (n : Int) : Rp (.int n) (.int n) := fun m S => by cases m <;> rfl
theorem rp_str (x : Str) : Rp (.str x) (.str x) := fun m S => by cases m <;> rfl
theorem map_deref0 (S : Sto) (l : List Dv) : l.map (deref 0 S) = l := by rw [show deref 0 S = id from rfl, List.map_id]
theorem rp_tup {l : List Dv} {ps : List PyData} (h : Rps l ps) : Rp (.tup l) (.tuple ps) := fun m S => by
  cases m with
  | zero => show (toPs l).map PyData.tuple = _; have := h 0 S; rw [map_deref0] at this; rw [this]; rfl
  | succ m => show (toPs (l.map (deref m S))).map PyData.tuple = _; rw [h m S]; rfl
theorem cl_cons (p : PyData) (ps : List PyData) : PyData.canLayAll0 (p :: ps) = (p.canLay0 && PyData.canLayAll0 ps) := by simp [PyData.canLayAll0]
theorem da_cons (p : PyData) (ps : List PyData) : PyData.depthAll (p :: ps) = max p.depth (PyData.depthAll ps) := by simp [PyData.depthAll]
theorem shaped_of {p : PyData} (h1 : p.canLay0 = true) (h2 : p.depth ≤ 64) : SeqAt.shaped p = true := by
  unfold SeqAt.shaped
  rw [h1, decide_eq_true h2]; rfl
/-- plain data of a depth -/
def Pl (n : Nat) (d : Dv) : Prop := ∃ p, Rp d p ∧ p.canLay0 = true ∧ p.depth ≤ n
def Pls (n : Nat) (l : List Dv) : Prop := ∃ ps, Rps l ps ∧ PyData.canLayAll0 ps = true ∧ PyData.depthAll ps ≤ n
theorem pls_of {n : Nat} : ∀ l : List Dv, (∀ d ∈ l, Pl n d) → Pls n l
  | [], _ => ⟨[], rps_nil, rfl, Nat.zero_le _⟩
  | d :: l, h => by
    obtain ⟨p, a1, a2, a3⟩ := h d (List.mem_cons_self ..)
    obtain ⟨ps, h1, h2, h3⟩ := pls_of l fun x hx => h x (List.mem_cons_of_mem _ hx)
    exact ⟨p :: ps, rps_cons a1 h1, by rw [cl_cons, a2, h2]; rfl, by rw [da_cons]; exact Nat.max_le.mpr ⟨a3, h3⟩⟩
theorem pl_str {n : Nat} {x : Str} (h : (PyData.str x).canLay0 = true) : Pl n (.str x) := ⟨_, rp_str x, h, by simp [PyData.depth]⟩
theorem pl_tup {n : Nat} {l : List Dv} (h : ∀ d ∈ l, Pl n d) : Pl (n + 1) (.tup l) := by
  obtain ⟨ps, h1, h2, h3⟩ := pls_of l h
  exact ⟨_, rp_tup h1, by simpa [PyData.canLay0] using h2, by simp [PyData.depth]; omega⟩
theorem Pl.deep {d : Dv} (h : Pl 64 d) (S : Sto) : deepE S d d = some true := by
  obtain ⟨p, h1, h2, h3⟩ := h
  exact deep_same (h1 40 S) (h1 40 S) (shaped_of h2 h3)
theorem eq_tup_same {l : List Dv} (S : Sto) (h : Pl 64 (.tup l)) : eqD S (.tup l) (.tup l) = some true := by
  show (if lenNe (asL S (.tup l)) (asL S (.tup l)) then some false else deepE S (.tup l) (.tup l)) = _
  rw [show lenNe (asL S (.tup l)) (asL S (.tup l)) = false from rfl, if_neg Bool.false_ne_true]
  exact h.deep S
end DL
namespace DL
open PySem L2
end DL
namespace DL
open PySem L2
def blt : List String := ["NoneType", "bool", "int", "str", "tuple", "list", "dict"]
def rgtOk (S : Sto) (c : Str) (b : Dv) : Bool := match insOf S b with
  | some (c', _) => decide (c' = c)
  | none => (tyD S b).isSome
def blR (neg : Bool) : Res Dv → Res Dv
  | .ok (.bl r) S' => .ok (.bl (if neg then !r else r)) S'
  | _ => .no
def kEqO (neg : Bool) (c : Str) (g : DF) (a b : Dv) (S : Sto) : Res Dv := match insOf S a with
  | some (c', _) => if c' = c ∧ rgtOk S c b = true then blR neg (g S [a, b]) else .no
  | none => .no
def eEqO (neg : Bool) (c : Str) (g : DF) (f1 f2 : DE) : DE := fun e S => bnd (f1 e S) fun a S1 => bnd (f2 e S1) fun b S2 => kEqO neg c g a b S2
end DL
namespace DL
open PySem L2
def kLIx (fa : DE) (e : Env) (d : Dv) (S : Sto) : Res Dv := match d with
  | .lst l => bnd (fa e S) (tixE l)
  | _ => .no
def eLIx (f fa : DE) : DE := fun e S => bnd (f e S) (kLIx fa e)
section
variable (S : Sto) (e : Env) (d : Dv) (l l' : List Dv) (f f1 f2 fa : DE) (c : Str) (g : DF) (b neg : Bool)
@[simp] theorem ev_lix : eLIx f fa e S = bnd (f e S) (kLIx fa e) := rfl
@[simp] theorem ev_klix : kLIx fa e (.lst l) S = bnd (fa e S) (tixE l) := rfl
def kEO1 (neg : Bool) (c : Str) (g : DF) (f2 : DE) (e : Env) (a : Dv) (S : Sto) : Res Dv := bnd (f2 e S) fun b S2 => kEqO neg c g a b S2
@[simp] theorem ev_eqO : eEqO neg c g f1 f2 e S = bnd (f1 e S) (kEO1 neg c g f2 e) := rfl
@[simp] theorem ev_kEO1 : kEO1 neg c g f2 e d S = bnd (f2 e S) (kEqO neg c g d) := rfl
@[simp] theorem blR_ok : blR neg (.ok (.bl b) S) = .ok (.bl (if neg then !b else b)) S := rfl
end
end DL
namespace DL
open PySem L2
end DL
namespace DL
open PySem PySem.Spec PyProof.Rows L2
def oexOk (K : PySem.W.Frag) (C : Addr) : Bool := match K.lookup C with
  | some ⟨.type "type", _, .cls cd, sl⟩ => (match cd.mro, sl.toList with
    | .ref C' :: bm, [_, _, _, _, some (.builtin n), _] => C' == C && n == "ValueError.__new__" && !cd.hasDel && cd.hasDict && PySem.HandSPX.refsVE bm
    | _, _ => false)
  | _ => false
theorem oexOk_of {K : PySem.W.Frag} {C : Addr} (q : oexOk K C = true) : ∃ nm q N bs bm sn sub ab col dd k0 k1 k2 k3 k5, K.lookup C = some (excClassObj nm q C N bs bm true sn sub ab col dd k0 k1 k2 k3 k5 "ValueError.__new__") ∧ PySem.HandSPX.refsVE bm = true := by
  unfold oexOk at q
  split at q
  · rename_i dd cd sl ho
    split at q
    · rename_i C' bm k0 k1 k2 k3 n k5 hm hs
      simp only [Bool.and_eq_true, beq_iff_eq, Bool.not_eq_true'] at q
      obtain ⟨⟨⟨⟨rfl, rfl⟩, hdel⟩, hdc⟩, ht⟩ := q
      obtain ⟨nm, bs, mro, ns, qn, hd, sn, sub, ab, col, del⟩ := cd
      dsimp only at hm hdel hdc
      subst hm hdel hdc
      have hsl : sl = #[k0, k1, k2, k3, some (.builtin "ValueError.__new__"), k5] := by
        obtain ⟨l⟩ := sl
        simp only at hs
        rw [hs]
      subst hsl
      exact ⟨nm, qn, ns, bs, bm, sn, sub, ab, col, dd, k0, k1, k2, k3, k5, ho, ht⟩
    · cases q
  · cases q
/-- the facts of the class c: made, its fields stored and read, asked by isinstance -/
structure XcG (K : PySem.W.Frag) (C : Addr) (ns : List Str) : Prop where
  o : OexC K C
  x : XfC K C
  no : ∀ n ∈ ns, PySem.W.findIn K (.ref C) n = some none
  cl : (PySem.W.clsIn K C).isSome = true
  ha : PySem.W.findIn K (.ref C) "__class__" = some (some (.builtin "object.__class__"))
  hn : PySem.W.specialIn K (.builtin "object.__class__") "__get__" = some (some (.builtin "getset_descriptor.__get__"))
  ht : PySem.W.takesIn K (.builtin "object.__class__") = some true
  hm : PySem.W.mroIn K C (.type "object") = some true
def xgOk (K : PySem.W.Frag) (C : Addr) (ns : List Str) : Bool := oexOk K C && (PySem.W.findIn K (.ref C) "__setattr__" == some (some (.builtin "object.__setattr__"))) && (PySem.W.subIn K (.ref C) (.type "BaseException") == some true) && (PySem.W.typeIn K (.ref C) == some (.type "type")) && PySem.W.keepIn K (.ref C) && xfB K C && (ns.all fun n => PySem.W.findIn K (.ref C) n == some none) && (PySem.W.clsIn K C).isSome &&
  (PySem.W.findIn K (.ref C) "__class__" == some (some (.builtin "object.__class__"))) && (PySem.W.specialIn K (.builtin "object.__class__") "__get__" == some (some (.builtin "getset_descriptor.__get__"))) && (PySem.W.takesIn K (.builtin "object.__class__") == some true) && (PySem.W.mroIn K C (.type "object") == some true)
theorem xgOk_of {K : PySem.W.Frag} {C : Addr} {ns : List Str} (h : xgOk K C ns = true) : XcG K C ns := by
  unfold xgOk at h
  obtain ⟨h, h12⟩ := He.ba h
  obtain ⟨h, h11⟩ := He.ba h
  obtain ⟨h, h10⟩ := He.ba h
  obtain ⟨h, h9⟩ := He.ba h
  obtain ⟨h, h8⟩ := He.ba h
  obtain ⟨h, h7⟩ := He.ba h
  obtain ⟨h, h6⟩ := He.ba h
  obtain ⟨h, h5⟩ := He.ba h
  obtain ⟨h, h4⟩ := He.ba h
  obtain ⟨h, h3⟩ := He.ba h
  obtain ⟨h1, h2⟩ := He.ba h
  exact ⟨⟨oexOk_of h1, beq_iff_eq.mp h2, beq_iff_eq.mp h3, beq_iff_eq.mp h4, h5⟩, xfB_ok h6, fun n hn => beq_iff_eq.mp (List.all_eq_true.mp h7 n hn), h8, beq_iff_eq.mp h9, beq_iff_eq.mp h10, beq_iff_eq.mp h11, beq_iff_eq.mp h12⟩
def xgB (c : Str) (ns : List Str) : Ft := .any fun K => xgOk K (He.ga K c) ns
theorem xg_f {K : PySem.W.Frag} {c : Str} {ns : List Str} (h : (xgB c ns).ok K = true) : XcG K (He.ga K c) ns := xgOk_of h
def kRaise (g : DF) (c : Str) (ns : List Str) (e : Env) (l : List Dv) (S : Sto) : Out := match g S l with
  | .ok _ _ => if l.length = ns.length then .ex c (ns.zip l).reverse e S else .no
  | _ => .no
def sRaise (g : DF) (c : Str) (ns : List Str) (fa : DA) : DS := fun e S => match fa e S with
  | .ok l S1 => kRaise g c ns e l S1
  | _ => .no
def veM : List Value := [.type "ValueError", .type "Exception", .type "BaseException", .type "object"]
structure X0F (K : PySem.W.Frag) (C : Addr) : Prop where
  g : XcG K C []
  e : PySem.W.excIn K C veM "ValueError.__new__" = true
def x0B (c : Str) : Ft := .any fun K => xgOk K (He.ga K c) [] && PySem.W.excIn K (He.ga K c) veM "ValueError.__new__"
theorem x0_f {K : PySem.W.Frag} {c : Str} (h : (x0B c).ok K = true) : X0F K (He.ga K c) := by
  obtain ⟨h1, h2⟩ := He.ba h
  exact ⟨xgOk_of h1, h2⟩
def sRaise0 (c : Str) : DS := fun e S => .ex c [] e S
section
variable {X : Cx} {W : WX} {c : Str} {p pos pos' : Pos}
theorem pmk_own0 {C : Addr} (q : PySem.W.excIn X.kw C veM "ValueError.__new__" = true) (hm : X.mg c = some (.ref C)) (kC : PySem.W.keepIn X.kw (.ref C) = true) (r : Raises X (.ref C)) (hg : Gl X c) (hdb : (c == ("__debug__" : Str)) = false := by decide) : PMk X (.Call (.Name c p) [] [] pos) (fun _ H Q => Q (.ref C) none H) := by
  intro pins s σ H Q I h
  refine wpAny_Call_Name_kw (ld_glob I hg hm ?_ hdb)
  refine PySem.W.callWith_K0 I.kIn kC ?_
  show wpAny _ _ (call (.ref C) []) _ _ _
  obtain ⟨bm, N, nm, qn, bs, hdct, sn, sub, ab, col, dd, k0, k1, k2, k3, k5, mN, hC, hN, hni, T⟩ := exc_obj I.kIn q
  refine wpAny_call_exc_subT PySem.F.excBase_ValueError T hC hN hni (fun h' e hm => ?_) (Nat.zero_le _)
  exact mk_of I hm r h (I.hok.gone hm.new)
theorem qs_raise0 (T : X0F X.kw (He.ga X.kw c)) (hm : X.mg c = some (.ref (He.ga X.kw c))) (tk : Takes X W) (hcalm : X.calm = true) (hg : Gl X c := by rfl) (hdb : (c == ("__debug__" : Str)) = false := by decide) :
    QS X W (.Raise (some (.Call (.Name c p) [] [] pos)) none pos') (sRaise0 c) :=
  ps_imp (ps_raise hcalm tk (pmk_own0 T.e hm T.g.o.kC (raises_own T.g.o.exC T.g.o.tyC) hg hdb)) fun D σ H h => by
    obtain ⟨L0, io0, H0, L, io, ev, S, fr, h⟩ := h
    exact h none σ H L io (Stw.refl ..) fr (.inl ⟨rfl, rfl⟩)
end
end DL
namespace DL
open PySem PySem.Spec PyProof.Rows L2
abbrev HR (α : Type) := Str → List (Str × Dv) → Env → Sto → Res α
theorem ExR.step {K : Kw} {L L' : Addr → Prop} {io io' : List Addr} {H H' : Hp} {x : Option Addr} {fs : List (Str × Dv)} (h : ExR K L io H x fs) (s : Stp L io H L' io' H') (sub : ∀ x ∈ io, L x) : ExR K L' io' H' x fs := by
  rcases h with h | ⟨a, vs, h1, h2, h3, h4⟩
  · exact .inl h
  obtain ⟨k1, k2⟩ := (s.on sub).2 a _ h3 h2
  exact .inr ⟨a, vs, h1, k2, k1, h4.mono fun v d r => r.step s sub⟩
def RdH {α β : Type} (K : Kw) (R : (Addr → Prop) → List Addr → Hp → β → α → Prop) (i : Nat) (a : Addr) (cls : Value) (d : Option Addr) (h : HR α) : L2.St → Hp → (β → Hp → Prop) → Prop := fun σ H Q =>
  ∃ (c : Str) (fs : List (Str × Dv)) (L0 : Addr → Prop) (io0 : List Addr) (H0 : Hp) (L : Addr → Prop) (io : List Addr) (e : Env) (S : Sto), cls = .ref (He.ga K c) ∧ FR K L0 io0 H0 L io H σ e S ∧ σ[i]? = some (some (.ref a)) ∧ ExR K L io H d fs ∧ Fin K (fun _ _ _ _ => False) R σ L io H Q (h c fs e S)
theorem RdH.bind {α β α' β' : Type} {K : Kw} {R : (Addr → Prop) → List Addr → Hp → β → α → Prop} {R' : (Addr → Prop) → List Addr → Hp → β' → α' → Prop} {i : Nat} {a : Addr} {cls : Value} {d : Option Addr} {h : HR α} {k : Str → List (Str × Dv) → Env → α → Sto → Res α'} {σ : L2.St} {H : Hp} {Q : β' → Hp → Prop} {P : β → Hp → Prop}
    (q : RdH K R' i a cls d (fun c fs e S => bnd (h c fs e S) (k c fs e)) σ H Q)
    (n : ∀ (c : Str) (fs : List (Str × Dv)) (L0 : Addr → Prop) (io0 : List Addr) (H0 : Hp) (L : Addr → Prop) (io : List Addr) (H1 : Hp) (e : Env) (S : Sto) (x : α) (v : β), cls = .ref (He.ga K c) → FR K L0 io0 H0 L io H1 σ e S → σ[i]? = some (some (.ref a)) → ExR K L io H1 d fs → R L io H1 v x → Fin K (fun _ _ _ _ => False) R' σ L io H1 Q (k c fs e x S) → P v H1) : RdH K R i a cls d h σ H P := by
  obtain ⟨c, fs, L0, io0, H0, L, io, e, S, hc, fr, si, ex, q0⟩ := q
  have q : Fin K (fun _ _ _ _ => False) R' σ L io H Q (bnd (h c fs e S) (k c fs e)) := q0
  refine ⟨c, fs, L0, io0, H0, L, io, e, S, hc, fr, si, ex, ?_⟩
  cases hh : h c fs e S with
  | ok x S1 =>
    rw [hh] at q
    intro v H1 L1 io1 s1 sr1 r1
    exact n c fs L0 io0 H0 L1 io1 H1 e S1 x v hc (fr.step s1 sr1) si (ex.step s1 fr.st.sub) r1 (Fin.later q s1 fr.st.sub)
  | ex c' fs' S1 => rw [hh] at q; exact q
  | no => rw [hh] at q; exact q
section
variable {X : Cx} {i : Nat} {e a b c : Expr} {es : List Expr} {pos : Pos} {h h1 h2 : HR Dv} {ha : HR (List Dv)} {ht : HR Bool}
/-- the classes' facts -/
def XcT (K : PySem.W.Frag) (tab : List (Str × List Str)) : Prop := ∀ c ns, tab.lookup c = some ns → XcG K (He.ga K c) ns
theorem pairR_look {K : Kw} {L : Addr → Prop} {io : List Addr} {H : Hp} {f : Str} {d : Dv} : ∀ {vs : List (Str × V)} {fs : List (Str × Dv)}, PairR (VR K L io H) vs fs → fs.lookup f = some d → ∃ v, vs.lookup f = some v ∧ VR K L io H v d
  | _, _, .nil, h => by simp at h
  | (n, v) :: vs, (m, d') :: fs, .cons r t, h => by
    have e : n = m := r.1
    subst e
    rw [List.lookup_cons] at h ⊢
    cases hb : f == n with
    | true => rw [hb] at h; cases h; exact ⟨v, rfl, r.2⟩
    | false => rw [hb] at h; exact pairR_look t h
end
def sTryR (i : Nat) (sub : List (Str × Bool)) (body : DS) (h : HR Dv) : DS := fun e S => match body e S with
  | .ex c fs e' S' => (match sub.lookup c with
    | some true => if i < e'.length then (match h c fs (e'.set i .no) S' with
      | .ok d S2 => .rt d S2
      | _ => .no) else .no
    | some false => .ex c fs e' S'
    | none => .no)
  | o => o
/-- which classes the clause takes -/
def ExT (K : PySem.W.Frag) (u : Value) (sub : List (Str × Bool)) : Prop := ∀ c b, sub.lookup c = some b → PySem.W.exmOne K (.ref (He.ga K c)) u = some b
end DL
namespace DL
open PySem L2
theorem mem_lookupA {α : Type} {k : Str} {d : α} : ∀ {l : List (Str × α)}, l.lookup k = some d → (k, d) ∈ l
  | [], h => by simp at h
  | (k', d') :: l, h => by
    rw [List.lookup_cons] at h
    cases e : k == k' with
    | true =>
      rw [e] at h
      cases h
      rw [beq_iff_eq.mp e]
      exact List.mem_cons_self
    | false => rw [e] at h; exact List.mem_cons_of_mem _ (mem_lookupA h)
def xtB (tab : List (Str × List Str)) : Ft := .any fun K => tab.all fun q => (xgB q.1 q.2).ok K
theorem xt_f {K : PySem.W.Frag} {tab : List (Str × List Str)} (h : (xtB tab).ok K = true) : XcT K tab := fun c ns hl => xg_f (List.all_eq_true.mp (show (tab.all fun q => (xgB q.1 q.2).ok K) = true from h) (c, ns) (mem_lookupA hl))
def extB (x : Str) (sub : List (Str × Bool)) : Ft := .any fun K => sub.all fun q => PySem.W.exmOne K (.ref (He.ga K q.1)) (.ref (He.ga K x)) == some q.2
theorem ext_f {K : PySem.W.Frag} {x : Str} {sub : List (Str × Bool)} (h : (extB x sub).ok K = true) : ExT K (.ref (He.ga K x)) sub := fun c b hl => beq_iff_eq.mp (List.all_eq_true.mp (show (sub.all fun q => PySem.W.exmOne K (.ref (He.ga K q.1)) (.ref (He.ga K x)) == some q.2) = true from h) (c, b) (mem_lookupA hl))
section
variable (S S' : Sto) (e e' : Env) (d : Dv) (l : List Dv) (c f : Str) (fs : List (Str × Dv)) (ns : List Str) (fa : DA) (g : DF) (i : Nat) (b : Bool) (body : DS) (h : HR Dv) (sub : List (Str × Bool))
def kRs (g : DF) (c : Str) (ns : List Str) (e : Env) : Res (List Dv) → Out
  | .ok l S1 => kRaise g c ns e l S1
  | _ => .no
@[simp] theorem ev_raise : sRaise g c ns fa e S = kRs g c ns e (fa e S) := by unfold sRaise kRs; cases fa e S <;> rfl
@[simp] theorem kRs_ok : kRs g c ns e (.ok l S) = kRaise g c ns e l S := rfl
def kTry (i : Nat) (sub : List (Str × Bool)) (h : HR Dv) : Out → Out
  | .ex c fs e' S' => (match sub.lookup c with
    | some true => if i < e'.length then (match h c fs (e'.set i .no) S' with
      | .ok d S2 => .rt d S2
      | _ => .no) else .no
    | some false => .ex c fs e' S'
    | none => .no)
  | o => o
@[simp] theorem ev_tryR : sTryR i sub body h e S = kTry i sub h (body e S) := by unfold sTryR kTry; cases body e S <;> rfl
@[simp] theorem kTry_nx : kTry i sub h (.nx e S) = .nx e S := rfl
@[simp] theorem kTry_rt : kTry i sub h (.rt d S) = .rt d S := rfl
end
end DL
namespace DL
open PySem L2
section
variable {X : Cx} {W : WX} {pos pos' : Pos} {o i a : Expr} {f f1 f2 fv fo fi : DE} {kk : Nat} {x : Str}
def dcopK (l : List Dv) (S : Sto) : Res (List (Key × Dv)) := match l with
  | [d] => (match asD S d with
    | some m => .ok m S
    | none => .no)
  | _ => .no
def dCopy (fa : DA) : DD := fun e S => bnd (fa e S) dcopK
end
end DL
namespace DL
open PySem PySem.Spec PyProof.Rows L2
def kCallP (c : Str) (g : DF) (d : Dv) (as : List Dv) (S : Sto) : Res Dv := match insOf S d with
  | some (c', _) => if c' = c then g S (d :: as) else .no
  | none => .no
def kCallO (c : Str) (g : DF) (fa : DA) (e : Env) (d : Dv) (S : Sto) : Res Dv := match insOf S d with
  | some (c', _) => if c' = c then bnd (fa e S) (kCallP c g d) else .no
  | none => .no
def eCallO (c : Str) (g : DF) (i : Nat) (fa : DA) : DE := fun e S => bnd (eVar i e S) (kCallO c g fa e)
def augF (op : Dv → Dv → Option Dv) (c f : Str) (k : Nat) (x : Dv) (e : Env) (y : Dv) (S : Sto) : Out := match op x y with
  | some z => (match setF c f S (.hdl k) z with
    | some S2 => .nx e S2
    | none => .no)
  | none => .no
def kAugF (op : Dv → Dv → Option Dv) (c f : Str) (fv : DE) (e : Env) (o : Dv) (S : Sto) : Out := match o with
  | .hdl k => (match S[k]? with
    | some (.ins c' fs) => if c' = c then (match fs.lookup f with
      | some x => sBind fv (augF op c f k x) e S
      | none => .no) else .no
    | _ => .no)
  | _ => .no
def sAugF (op : Dv → Dv → Option Dv) (c f : Str) (fo fv : DE) : DS := sBind fo (kAugF op c f fv)
section
variable {X : Cx} {W : WX} {pos tpos : Pos} {o a : Expr} {c f : Str} {fo fv : DE}
theorem qs_augF {op : Operator} {rd' : V → V → Hp → VK → Prop} {od : Dv → Dv → Option Dv} (hf : Fl X.kw c f) (hop : InOp X op rd') (hod : IpS X.kw rd' od) (ho : QE X W o fo) (hv : QE X W a fv) : QS X W (.AugAssign (.Attribute o f tpos) op a pos) (sAugF od c f fo fv) := ps_imp (ps_fldaug ho hv hop) fun D g H h => by
  refine rds_bind (R := VR X.kw) (k := kAugF od c f fv) h fun L0 io0 H0 L io H1 e S d v fr rv q => ?_
  unfold kAugF at q
  cases d with
  | hdl k =>
    cases rv with
    | hdl hk =>
      rename_i p
      cases h1 : S[k]? with
      | none => simp only [h1] at q; exact q.elim
      | some ob =>
        cases ob with
        | ins c' fs =>
          simp only [h1] at q
          split at q
          · rename_i hc
            subst hc
            cases h2 : fs.lookup f with
            | none => rw [h2] at q; exact q.elim
            | some x =>
              rw [h2] at q
              simp only at q
              obtain ⟨dx, vs, e1, e2⟩ := fr.st.obj k p _ hk h1
              obtain ⟨vx, l1, l2⟩ := pairR_look e2 h2
              refine ⟨p, _, dx, vs, vx, rfl, e1, hf.kc, hf.kn, l1, ?_⟩
              refine outR.bind (R := VR X.kw) (k := augF od c' f k x) fr q fun M3 io3 H3 S3 dy vy s3 fr3 ry q3 => ?_
              unfold augF at q3
              cases h3 : od x dy with
              | none => rw [h3] at q3; exact q3.elim
              | some z =>
                rw [h3] at q3
                simp only at q3
                refine hod M3 io3 H3 vx vy x dy z _ (l2.step s3 fr.st.sub) ry h3 fun vz rz => ?_
                simp only [setF] at q3
                have hk3 : io3[k]? = some p := by
                  obtain ⟨m, rfl⟩ := s3.pre
                  exact io_keep hk
                cases h4 : S3[k]? with
                | none => rw [h4] at q3; exact q3.elim
                | some ob3 =>
                  cases ob3 with
                  | ins c3 fs3 =>
                    rw [h4] at q3
                    simp only at q3
                    split at q3
                    · rename_i S4 hz
                      split at hz
                      · rename_i hc3
                        cases hz
                        obtain ⟨hc3, hl3⟩ := hc3
                        subst hc3
                        obtain ⟨dx3, vs3, e3, e4⟩ := fr3.st.obj k p _ hk3 h4
                        have lp : M3 p := fr3.st.sub p (List.mem_of_getElem? hk3)
                        refine ⟨dx3, vs3, e3, by rw [e4.size]; exact hl3, ?_⟩
                        have st : Stp M3 io3 H3 M3 io3 (upd H3 p (.ins (He.ga X.kw c3) dx3 (putF f vz vs3))) := Stp.mutH (List.mem_of_getElem? hk3)
                        have sr := fr3.st.setH (ob := .ins c3 (putFD f z fs3)) (o := .ins (He.ga X.kw c3) dx3 (putF f vz vs3)) hk3 ⟨dx3, _, upd_same, (PairR.putF rz e4).mono fun v d r => r.mut lp⟩
                        exact q3 g _ M3 io3 (st.stw fr3.st.sub) (fr3.step st sr)
                      · cases hz
                    · exact q3.elim
                  | _ => rw [h4] at q3; exact q3.elim
          · exact q.elim
        | _ => simp only [h1] at q; exact q.elim
  | _ => exact q.elim
end
section
variable (S S' : Sto) (e e' : Env) (d d1 d2 : Dv) (l : List Dv) (m : List (Key × Dv)) (c f : Str) (fs : List (Str × Dv)) (fa : DA) (g : DF) (i k : Nat) (fv fi fo f1 : DE)
@[simp] theorem ev_callO : eCallO c g i fa e S = bnd (kVar S (e[i]?)) (kCallO c g fa e) := rfl
@[simp] theorem ev_augF (op : Dv → Dv → Option Dv) : sAugF op c f fo fv e S = kS (kAugF op c f fv) e (fo e S) := ev_sbind ..
@[simp] theorem ev_dCopy : dCopy fa e S = bnd (fa e S) dcopK := rfl
@[simp] theorem dcopK_dic : dcopK [.dic m] S = .ok m S := rfl
end
end DL
namespace DL
open PySem L2
def rngK1 (d : Dv) (S : Sto) : Res (List Dv) := match d with
  | .int n => if 0 ≤ n ∧ n ≤ 16777216 then .ok (rngD 0 n.toNat) S else .no
  | _ => .no
def fRng (f : DE) : DL := fun e S => bnd (f e S) rngK1
theorem vrs_rng {K : Kw} {L : Addr → Prop} {io : List Addr} {H : Hp} (n : Int) : VRs K L io H (rgV 0 n) (rngD 0 n.toNat) := by
  unfold rgV rngD
  rw [Int.sub_zero]
  generalize List.range n.toNat = l
  induction l with
  | nil => exact .nil
  | cons x r ih => exact .cons (.int _) ih
theorem qf_rng {X : Cx} {W : WX} {p p2 pos pos2 : Pos} {a : Expr} {f : DE} (hm : X.mg "list" = none) (hm2 : X.mg "range" = none) (ha : QE X W a f) (hc : X.calm = true := by rfl) (hg : Gl X "list" := by rfl) (hg2 : Gl X "range" := by rfl) (na : starEach [a] X.env = (false, eval a X.env) :: starEach [] X.env := by rfl)
    (na2 : starEach [.Call (.Name "range" p2) [a] [] pos2] X.env = (false, eval (.Call (.Name "range" p2) [a] [] pos2) X.env) :: starEach [] X.env := by rfl) : QF X W (.Call (.Name "list" p) [.Call (.Name "range" p2) [a] [] pos2] [] pos) (fRng f) :=
  pe_imp (pe_listRg hc hg hm (prg_1 hg2 hm2 ha na) na2) fun g H Q q => by
  obtain ⟨L0, io0, H0, L, io, e, S, fr, q⟩ := q
  refine FinF.bind (R := VR X.kw) (k := rngK1) fr q fun L1 io1 H1 S1 d v s1 fr1 rv q => ?_
  unfold rngK1 at q
  cases d with
  | int n =>
    simp only at q
    split at q
    · rename_i hn
      cases rv
      refine ⟨n, rfl, RgOk.of_le (by omega) hn.2 (by omega) hn.1, FinF.new q fr1.st (vrs_rng n)⟩
    · exact q.elim
  | _ => exact q.elim
def kRevL (d : Dv) (S : Sto) : Res (List Dv) := match asL S d with
  | some l => .ok l.reverse S
  | none => .no
def fRevL (f : DE) : DL := fun e S => bnd (f e S) kRevL
def kRepL (a : List Dv) (d : Dv) (S : Sto) : Res (List Dv) := match d with
  | .int k => if -(2 ^ 63) ≤ k ∧ k < 2 ^ 63 ∧ a.length * k.toNat ≤ sizeLine then .ok (List.replicate k.toNat a).flatten S else .no
  | _ => .no
def kRepA (f2 : DE) (e : Env) (d : Dv) (S : Sto) : Res (List Dv) := match d with
  | .lst l => bnd (f2 e S) (kRepL l)
  | _ => .no
def fRep (f1 f2 : DE) : DL := fun e S => bnd (f1 e S) (kRepA f2 e)
section
variable (S : Sto) (e : Env) (l : List Dv) (f f1 f2 : DE)
@[simp] theorem ev_fRng : fRng f e S = bnd (f e S) rngK1 := rfl
@[simp] theorem ev_fRevL : fRevL f e S = bnd (f e S) kRevL := rfl
@[simp] theorem kRevL_lst : kRevL (.lst l) S = .ok l.reverse S := rfl
@[simp] theorem ev_fRep : fRep f1 f2 e S = bnd (f1 e S) (kRepA f2 e) := rfl
@[simp] theorem kRepA_lst : kRepA f2 e (.lst l) S = bnd (f2 e S) (kRepL l) := rfl
end
end DL
namespace DL
open PySem L2
end DL
namespace DL
open PySem L2
end DL
namespace DL
open PySem L2
end DL
namespace DL
open PySem L2
def frzN : Nat → Sto → Dv → Dv
  | n + 1, S, .hdl k => (match S[k]? with
    | some (.lst l) => .lst (l.map (frzN n S))
    | some (.dct l) => .dic (l.map fun q => (q.1, frzN n S q.2))
    | some (.ins c fs) => .obj c (fs.map fun q => (q.1, frzN n S q.2))
    | _ => .hdl k)
  | _, _, d => d
abbrev L00 : Addr → Prop := fun _ => False
section
variable {K : Kw} {L : Addr → Prop} {io : List Addr} {H : Hp} {S : Sto}
theorem noh_all {v : V} {d : Dv} (r : VR K L io H v d) (h : noH d = true) : VR K L00 [] H v d := VR.noh (fun a o e _ => ⟨e, fun z => z⟩) r h
theorem frzs_ok (n : Nat) (ih : ∀ (d : Dv) (v : V), VR K L io H v d → noH (frzN n S d) = true → VR K L00 [] H v (frzN n S d)) : ∀ (l : List Dv) (vs : List V), VRs K L io H vs l → noHs (l.map (frzN n S)) = true → VRs K L00 [] H vs (l.map (frzN n S))
  | [], _, .nil, _ => .nil
  | d :: l, _, .cons h t, e => by
    simp only [List.map_cons, noHs, Bool.and_eq_true] at e
    exact .cons (ih d _ h e.1) (frzs_ok n ih l _ t e.2)
theorem frzp_ok (n : Nat) (ih : ∀ (d : Dv) (v : V), VR K L io H v d → noH (frzN n S d) = true → VR K L00 [] H v (frzN n S d)) : ∀ (l : List (Key × Dv)) (vs : List (Key × V)), PairR (VR K L io H) vs l → noHp (l.map fun q => (q.1, frzN n S q.2)) = true → PairR (VR K L00 [] H) vs (l.map fun q => (q.1, frzN n S q.2))
  | [], _, .nil, _ => .nil
  | (k2, d) :: l, (k1, v) :: vs, .cons ⟨h1, h2⟩ t, e => by
    simp only [List.map_cons, noHp, Bool.and_eq_true] at e
    exact .cons ⟨h1, ih d v h2 e.1⟩ (frzp_ok n ih l vs t e.2)
theorem frzf_ok (n : Nat) (ih : ∀ (d : Dv) (v : V), VR K L io H v d → noH (frzN n S d) = true → VR K L00 [] H v (frzN n S d)) : ∀ (l : List (Str × Dv)) (vs : List (Str × V)), PairR (VR K L io H) vs l → noHf (l.map fun q => (q.1, frzN n S q.2)) = true → PairR (VR K L00 [] H) vs (l.map fun q => (q.1, frzN n S q.2))
  | [], _, .nil, _ => .nil
  | (k2, d) :: l, (k1, v) :: vs, .cons ⟨h1, h2⟩ t, e => by
    simp only [List.map_cons, noHf, Bool.and_eq_true] at e
    exact .cons ⟨h1, ih d v h2 e.1⟩ (frzf_ok n ih l vs t e.2)
theorem frzN_ok (sr : SR K L io H S) : ∀ (n : Nat) (d : Dv) (v : V), VR K L io H v d → noH (frzN n S d) = true → VR K L00 [] H v (frzN n S d)
  | 0, d, v, r, e => by
    cases d <;> exact noh_all r e
  | n + 1, .hdl k, v, r, e => by
    cases r with
    | hdl hk =>
      rename_i a
      cases q : S[k]? with
      | none => simp only [frzN, q, noH] at e; cases e
      | some o =>
        cases o with
        | lst l =>
          simp only [frzN, q, noH] at e ⊢
          obtain ⟨xs, h, t⟩ := sr.obj k a _ hk q
          exact .lst (fun z => z) h (frzs_ok n (frzN_ok sr n) l xs t e)
        | dct l =>
          simp only [frzN, q, noH] at e ⊢
          obtain ⟨xs, h, t⟩ := sr.obj k a _ hk q
          exact .dic (fun z => z) (.inl h) (frzp_ok n (frzN_ok sr n) l xs t e).vrp
        | ins c fs =>
          simp only [frzN, q, noH] at e ⊢
          obtain ⟨dx, xs, h, t⟩ := sr.obj k a _ hk q
          exact .obj (fun z => z) h (vrf_of (frzf_ok n (frzN_ok sr n) fs xs t e))
        | ext => simp only [frzN, q, noH] at e; cases e
        | dcn => simp only [frzN, q, noH] at e; cases e
  | n + 1, .non, v, r, e => noh_all r e
  | n + 1, .bl _, v, r, e => noh_all r e
  | n + 1, .int _, v, r, e => noh_all r e
  | n + 1, .str _, v, r, e => noh_all r e
  | n + 1, .tup _, v, r, e => noh_all r e
  | n + 1, .lst _, v, r, e => noh_all r e
  | n + 1, .rol _, v, r, e => noh_all r e
  | n + 1, .dic _, v, r, e => noh_all r e
  | n + 1, .obj _ _, v, r, e => noh_all r e
  | n + 1, .glo _, v, r, e => noh_all r e
  | n + 1, .ty _, v, r, e => noh_all r e
  | n + 1, .ext _ _ _ _, v, r, e => noh_all r e
/-- dicts are locked -/
theorem VR.lock {H' : Hp} (hl : ∀ b o, H b = some o → H' b = some o ∨ ∃ kvs od, o = .dK kvs ∧ H' b = some (.frz od o)) {v : V} {d : Dv} (h : VR K L00 [] H v d) : VR K L00 [] H' v d := by
  have rdl : ∀ {a : Addr} {xs : List V}, Rd H a (.lst xs) → Rd H' a (.lst xs) := fun {a xs} r => by
    rcases r with r | ⟨o, r⟩
    · rcases hl a _ r with z | ⟨kvs, od, z, _⟩
      · exact .inl z
      · cases z
    · rcases hl a _ r with z | ⟨kvs, od, z, _⟩
      · exact .inr ⟨o, z⟩
      · cases z
  have rdd : ∀ {a : Addr} {kvs : List (Key × V)}, Rd H a (.dK kvs) → Rd H' a (.dK kvs) := fun {a kvs} r => by
    rcases r with r | ⟨o, r⟩
    · rcases hl a _ r with z | ⟨kvs, od, z, z2⟩
      · exact .inl z
      · exact .inr ⟨od, z2⟩
    · rcases hl a _ r with z | ⟨kvs, od, z, _⟩
      · exact .inr ⟨o, z⟩
      · cases z
  refine VR.rec (motive_1 := fun v d _ => VR K L00 [] H' v d) (motive_2 := fun vs ds _ => VRs K L00 [] H' vs ds) (motive_3 := fun vs ds _ => VRp K L00 [] H' vs ds) (motive_4 := fun vs ds _ => VRf K L00 [] H' vs ds) ?_ ?_ ?_ ?_ ?_ ?_ ?_ ?_ ?_ ?_ ?_ ?_ ?_ ?_ ?_ ?_ ?_ ?_ ?_ ?_ ?_ h
  · exact .non
  · exact fun b => .bl b
  · exact fun i => .int i
  · exact fun x => .str x
  · intro a xs ds nl e _ ih
    rcases hl a _ e with z | ⟨kvs, od, z, _⟩
    · exact .tup nl z ih
    · cases z
  · exact fun h _ ih => .tupK h ih
  · intro a xs ds nl e _ ih
    rcases hl a _ e with z | ⟨kvs, od, z, _⟩
    · exact .lst nl z ih
    · cases z
  · intro a xs ds nl r _ ih
    exact .rol nl (rdl r) ih
  · exact fun h _ ih => .rolK h ih
  · intro a xs ds nl r _ ih
    exact .dic nl (rdd r) ih
  · intro a dx c vs fs nl e _ ih
    rcases hl a _ e with z | ⟨kvs, od, z, _⟩
    · exact .obj nl z ih
    · cases z
  · exact fun h => .hdl h
  · exact fun x => .glo x
  · exact fun n => .ty n
  · intro a t c ns vs ds os h0 hk ho _ ih
    refine .ext h0 hk (fun p hp => ⟨fun z => z, ?_⟩) ih
    rcases hl _ _ (ho p hp).2 with z | ⟨kvs, od, z, _⟩
    · exact z
    · exact absurd z (hk.nodk p hp kvs)
  · exact .nil
  · exact fun _ _ h1 h2 => .cons h1 h2
  · exact .nil
  · exact fun _ _ h1 h2 => .cons h1 h2
  · exact .nil
  · exact fun _ _ h1 h2 => .cons h1 h2
def vwS (S : Sto) : Sl → Sl
  | .va d => if noH (frzN 4 S d) = true then .va (frzN 4 S d) else .no
  | _ => .no
def vwE (S : Sto) (e : Env) : Env := e.map (vwS S)
theorem sr00 (H : Hp) : SR K L00 [] H [] where
  len := rfl
  nd := List.nodup_nil
  sub := fun _ h => by simp at h
  dom := fun _ h => h.elim
  obj := fun k a o h => by simp at h
/-- the view's frame, dicts locked or not -/
theorem FR.view {L0 : Addr → Prop} {io0 : List Addr} {H0 H' : Hp} {g : St} {e : Env} (fr : FR K L0 io0 H0 L io H g e S) (hl : ∀ b o, H b = some o → H' b = some o ∨ ∃ kvs od, o = .dK kvs ∧ H' b = some (.frz od o)) : FR K L00 [] H' L00 [] H' g (vwE S e) [] where
  st := sr00 H'
  len := by simp only [vwE, List.length_map]; exact fr.len
  va := fun i d h => by
    simp only [vwE, List.getElem?_map] at h
    cases he : e[i]? with
    | none => rw [he] at h; cases h
    | some sl =>
      rw [he] at h
      cases sl with
      | va d' =>
        simp only [Option.map_some, vwS] at h
        split at h
        · rename_i hn
          cases h
          obtain ⟨v, h1, h2⟩ := fr.va i d' he
          exact ⟨v, h1, VR.lock hl (frzN_ok fr.st 4 d' v h2 hn)⟩
        · cases h
      | no => cases h
      | own o => cases h
  own := fun i o h => by
    simp only [vwE, List.getElem?_map] at h
    cases he : e[i]? with
    | none => rw [he] at h; cases h
    | some sl =>
      rw [he] at h
      cases sl with
      | va d' =>
        simp only [Option.map_some, vwS] at h
        split at h <;> cases h
      | no => cases h
      | own o => cases h
  inj := fun i j p _ v1 _ v2 _ hg _ => by
    simp only [vwE, List.getElem?_map] at v1 v2
    cases he : e[i]? with
    | none =>
      have : g[i]? = none := by
        rw [List.getElem?_eq_none_iff] at he ⊢
        rw [fr.len]; exact he
      rw [this] at hg
      cases hg
    | some sl =>
      rw [he] at v1 v2
      cases sl with
      | va d' =>
        simp only [Option.map_some, vwS] at v1 v2
        split at v1
        · exact v1 _ rfl
        · rename_i hn; rw [if_neg hn] at v2; exact v2 rfl
      | no => exact v2 rfl
      | own o => exact v2 rfl
  en := Stp.refl ..
  sub0 := fun _ h => by simp at h
  dom0 := fun _ h => h.elim
end
end DL
namespace DL
open PySem L2
section
variable {K : Kw} {L0 L : Addr → Prop} {io0 io : List Addr} {H0 H : Hp} {g g' : St} {e : Env} {S : Sto}
theorem FR.same (fr : FR K L0 io0 H0 L io H g e S) (hl : g'.length = g.length) (h : ∀ i : Nat, (∃ s : Sl, e[i]? = some s ∧ s ≠ Sl.no) → g'[i]? = g[i]?) : FR K L0 io0 H0 L io H g' e S where
  st := fr.st
  len := hl.trans fr.len
  va := fun i d he => by
    obtain ⟨v, h1, h2⟩ := fr.va i d he
    exact ⟨v, (h i ⟨_, he, fun z => nomatch z⟩).trans h1, h2⟩
  own := fun i o he => by
    obtain ⟨p, h1, h2⟩ := fr.own i o he
    exact ⟨p, (h i ⟨_, he, fun z => nomatch z⟩).trans h1, h2⟩
  inj := fun i j p hij v1 v2 n1 n2 hi hj => by
    have iin : ∀ k : Nat, e[k]? ≠ some Sl.no → g'[k]? = some (some (V.ref p)) → g'[k]? = g[k]? := fun k hk hgk => by
      cases hek : e[k]? with
      | none =>
        have : e.length ≤ k := List.getElem?_eq_none_iff.mp hek
        have h2 : g'[k]? = none := List.getElem?_eq_none_iff.mpr (by rw [hl, fr.len]; exact this)
        rw [h2] at hgk; cases hgk
      | some s => exact h k ⟨s, hek, fun z => hk (by rw [hek, z])⟩
    exact fr.inj i j p hij v1 v2 n1 n2 ((iin i n1 hi).symm.trans hi) ((iin j n2 hj).symm.trans hj)
  en := fr.en
  sub0 := fr.sub0
  dom0 := fr.dom0
end
def gL (gs : DGs) : DG := fun d e => (asF d).bind fun l => gs l e
section
variable {X : Cx} {ts : List Expr} {gds : DGs} {n : Nat} {vs : List Nat} {pos : Pos}
theorem qg_lst {k : Nat} (hc : X.calm = true) (h : QGs X ts gds n vs) (hn : (assignEach ts X.env).length = n := by rfl) (hst : (assignEach ts X.env).findIdx? (·.1) = none := by rfl) : QG X (.Tuple ts k pos) (gL gds) vs := by
  obtain ⟨⟨t, p, o⟩, hl⟩ := h
  refine ⟨gLst X.kw n t, pg_lst hc p hn hst, fun L0 io0 H0 L io H g e S v d e' Q fr r h q => ?_⟩
  unfold gL at h
  cases h1 : asF d with
  | none => rw [h1] at h; cases h
  | some l =>
    rw [h1] at h
    obtain ⟨a, xs, rfl, hs, t'⟩ := asF_ok r h1
    exact ⟨a, xs, rfl, hs, by rw [t'.len]; exact hl l e e' h, o L0 io0 H0 L io H g e S xs l e' Q fr t' h q⟩
end
@[simp] theorem ev_gL (gs : DGs) (l : List Dv) (e : Env) : gL gs (.lst l) e = gs l e := rfl
end DL
namespace DL
open PySem L2 PySem.Spec PyProof.Rows
end DL
namespace DL
open PySem L2
def minD (S : Sto) : List Dv → Option (Dv × Sto)
  | [.int i, .int j] => some (.int (if j < i then j else i), S)
  | _ => none
theorem cas_min {K : Kw} : CaS K (fun xs H Q => ∃ i j, xs = [.int i, .int j] ∧ Q (.int (if j < i then j else i)) H) minD := by
  intro L io H S xs l d S' Q sr rv e q
  unfold minD at e
  split at e
  · cases e
    cases rv with
    | cons r1 t1 =>
      cases t1 with
      | cons r2 t2 =>
        cases t2
        have r1 := r1.vr rfl
        have r2 := r2.vr rfl
        cases r1
        cases r2
        exact ⟨_, _, rfl, q _ H L io (Stp.refl ..) sr (.int _)⟩
  · cases e
end DL
namespace DL
open PySem L2
end DL
namespace DL
open PySem L2
end DL
namespace SrtF
open PySem PySem.Spec PyProof.Rows L2
structure KeepF (fs : List Addr) (h h' : Heap) : Prop where
  k : ∀ b o, h.get? b = some o → b ∉ fs → h'.get? b = some o
  f : ∀ b o, h.get? b = some o → b ∈ fs → ∃ sl, h'.get? b = some { o with slots := sl }
section
variable {fs : List Addr} {h h' h2 : Heap} {H : Hp} {P : Program} {w : World}
theorem KeepF.of (k : ∀ b o, h.get? b = some o → h'.get? b = some o) : KeepF fs h h' := ⟨fun b o e _ => k b o e, fun b o e _ => ⟨o.slots, k b o e⟩⟩
theorem KeepF.trans (a : KeepF fs h h') (b : KeepF fs h' h2) : KeepF fs h h2 := ⟨fun x o e n => b.k x o (a.k x o e n) n, fun x o e n => by
  obtain ⟨sl, e1⟩ := a.f x o e n
  obtain ⟨sl2, e2⟩ := b.f x _ e1 n
  exact ⟨sl2, e2⟩⟩
theorem KeepF.there (a : KeepF fs h h') {b : Addr} {o : Obj} (e : h.get? b = some o) : ∃ o', h'.get? b = some o' := by
  by_cases hb : b ∈ fs
  · obtain ⟨sl, e1⟩ := a.f b o e hb
    exact ⟨_, e1⟩
  · exact ⟨o, a.k b o e hb⟩
theorem KeepF.un (a : KeepF fs h h') : Un fs [] H H h h' :=
  ⟨fun b o e _ nf _ => a.k b o e nf, fun b o e _ hf _ => a.f b o e hf, fun _ _ _ n _ => n, fun b o e _ => a.there e, fun _ _ q => q, fun _ _ _ q => q, fun _ ps q => ⟨#[], by rw [q]; simp⟩⟩
theorem obj_there {c : Addr} {o : HO} (x : ObjOk P w H h c o) : ∃ u, h.get? c = some u := by
  cases o with
  | lst xs => obtain ⟨_, _, _, _, e⟩ := x; exact ⟨_, e⟩
  | tup xs => obtain ⟨_, _, _, o, e, _⟩ := x; exact ⟨_, e⟩
  | dK kvs => obtain ⟨_, _, _, _, o, _, _, e, _⟩ := x; exact ⟨_, e⟩
  | dT kvs => obtain ⟨_, _, _, _, o, _, _, e, _⟩ := x; exact ⟨_, e⟩
  | set S n => obtain ⟨o, _, _, _, e, _⟩ := x; exact ⟨_, e⟩
  | ins C dx fs => obtain ⟨_, _, _, e, _⟩ := x; exact ⟨_, e⟩
  | own y => obtain ⟨_, e⟩ := x; exact ⟨_, e⟩
  | xd fs => obtain ⟨_, ⟨_, _, _, e, _⟩, _⟩ := x; exact ⟨_, e⟩
  | rng lo hi => obtain ⟨_, _, _, e⟩ := x; exact ⟨_, e⟩
  | frz ob u => obtain ⟨e, _⟩ := x; exact ⟨_, e⟩
  | tbl ps => exact ⟨_, show h.get? c = some _ from x⟩
  | met f y => exact ⟨_, show h.get? c = some _ from x⟩
  | ext φ => obtain ⟨_, ⟨_, e⟩, _⟩ := x; exact ⟨_, e⟩
theorem KeepF.hok (a : KeepF fs h h') (x : HOk P w H h) (hf : ∀ b ∈ fs, H b = none) : HOk P w H h' := fun c o e =>
  (x c o e).stay (fun b u hb q => a.k b u q fun z => by
    have := hf b z
    rcases hb with rfl | hb
    · rw [this] at e; cases e
    · rw [this] at hb; cases hb) (fun _ q => q) fun _ _ q => q
end
section
variable {X : Cx} {pins : List (Addr × Obj)} {σ : L2.St} {H : Hp} {s s' : Shared}
theorem fresh_of {p : Addr} (I : Inv X pins σ H s) (ne : ∀ b u, s.heap.get? b = some u → b ≠ p) : H p = none := by
  cases e : H p with
  | none => rfl
  | some u =>
    obtain ⟨o, h⟩ := obj_there (I.hok p u e)
    exact (ne p o h rfl).elim
/-- a new object is told behind it -/
theorem KeepF.laid {p : Addr} {o : HO} (a : KeepF (frs X.stack) s.heap s'.heap) (I : Inv X pins σ H s) (ho : s'.os = s.os) (hg : AllBare s'.gens) (ne : ∀ b u, s.heap.get? b = some u → b ≠ p) (new : ObjOk X.prog X.w (upd H p o) s'.heap p o) : Inv X pins σ (upd H p o) s' := by
  have hn : H p = none := fresh_of I ne
  have ne2 : ∀ b u, H b = some u → b ≠ p := fun b u e z => by rw [z, hn] at e; cases e
  refine I.call' (ch := []) ho ⟨fun b u e _ nf _ => a.k b u e nf, fun b u e _ hf _ => a.f b u e hf, fun b u e n _ => by rw [upd_ne (ne b u e)]; exact n, fun b u e _ => a.there e, fun b xs q => by rw [upd_ne (ne2 b _ q)]; exact q, fun b _ _ q => by rw [upd_ne (ne2 b _ q)]; exact q, fun b ps q => ⟨#[], by rw [upd_ne (ne2 b _ q), q]; simp⟩⟩ (fun c u e => ?_) hg fun b z => nomatch z
  by_cases hc : c = p
  · subst hc
    rw [upd_same] at e
    cases e
    exact new
  · rw [upd_ne hc] at e
    exact (I.hok c u e).stay (fun b v hb q => a.k b v q fun z => by
      have := I.stkFree b z
      rcases hb with rfl | hb
      · rw [this] at e; cases e
      · rw [this] at hb; cases hb) (fun b q => by rw [upd_ne (ne2 b _ q)]; exact q) fun b xs q => by rw [upd_ne (ne2 b _ q)]; exact q
end
end SrtF
namespace DL
open PySem L2
end DL
namespace DL
open PySem L2
def intsD : List Dv → Option (List Int)
  | [] => some []
  | .int i :: l => (intsD l).map (i :: ·)
  | _ :: _ => none
theorem intsD_ok {K : Kw} {L : Addr → Prop} {io : List Addr} {H : Hp} : ∀ {xs : List V} {l : List Dv} {ns : List Int}, VRs K L io H xs l → intsD l = some ns → xs = ns.map V.int
  | _, _, _, .nil, h => by cases h; rfl
  | v :: xs, d :: l, ns, .cons r t, h => by
    cases d with
    | int i =>
      obtain ⟨m, hm, rfl⟩ := map_ok (show (intsD l).map (i :: ·) = some ns from h)
      cases r
      rw [List.map_cons, intsD_ok t hm]
    | _ => cases h
theorem intsD_map : ∀ ns : List Int, intsD (ns.map Dv.int) = some ns
  | [] => rfl
  | n :: ns => by rw [List.map_cons]; show (intsD (ns.map Dv.int)).map (n :: ·) = _; rw [intsD_map ns]; rfl
def fmtK (d : Dv) (S : Sto) : Res Dv := match d with
  | .str y => if y.length ≤ sizeLine then .ok (.str y) S else .no
  | .int i => if i.natAbs.log2 < 1920 then .ok (.str (toString i)) S else .no
  | _ => .no
def eFmt (f : DE) : DE := fun e S => bnd (f e S) fmtK
@[simp] theorem ev_fmt (f : DE) (e : Env) (S : Sto) : eFmt f e S = bnd (f e S) fmtK := rfl
def jsK (acc : Str) (k : Str → Env → Sto → Res Dv) (e : Env) (d : Dv) (S : Sto) : Res Dv := match d with
  | .str y => if (acc ++ y).length ≤ sizeLine then k (acc ++ y) e S else .no
  | _ => .no
def jsR : List DE → Str → Env → Sto → Res Dv
  | [], acc, _, S => .ok (.str acc) S
  | f :: fs, acc, e, S => bnd (f e S) (jsK acc (jsR fs) e)
def eJoi (fs : List DE) : DE := jsR fs Str.empty
@[simp] theorem ev_joi (fs : List DE) (e : Env) (S : Sto) : eJoi fs e S = jsR fs Str.empty e S := rfl
@[simp] theorem ev_js0 (acc : Str) (e : Env) (S : Sto) : jsR [] acc e S = .ok (.str acc) S := rfl
@[simp] theorem ev_js1 (f : DE) (fs : List DE) (acc : Str) (e : Env) (S : Sto) : jsR (f :: fs) acc e S = bnd (f e S) (jsK acc (jsR fs) e) := rfl
end DL
namespace DL
open PySem L2
theorem call_int2 {X : Cx} : CallR X (.type "int") (fun xs H Q => ((∃ i, xs = [.int i] ∧ Q (.int i) H) ∨ ∃ k, xs = [.bl k] ∧ Q (.int (if k then 1 else 0)) H) ∨ ∃ a n, xs = [.str a] ∧ PySem.intText? a = some n ∧ a.length ≤ 640 ∧ Q (.int n) H) := by
  intro pins s σ H xs us Q I r h
  rcases h with h | h
  · exact call_int1 pins s σ H xs us Q I r h
  · exact call_int_str pins s σ H xs us Q I r h
def intD2 (S : Sto) : List Dv → Option (Dv × Sto)
  | [.int i] => some (.int i, S)
  | [.bl b] => some (.int (if b then 1 else 0), S)
  | [.str x] => match PySem.intText? x with
    | some n => if x.length ≤ 640 then some (.int n, S) else none
    | none => none
  | _ => none
@[simp] theorem int2_int (S : Sto) (p : Int) : intD2 S [.int p] = some (.int p, S) := rfl
@[simp] theorem int2_bl (S : Sto) (b : Bool) : intD2 S [.bl b] = some (.int (if b then 1 else 0), S) := rfl
theorem cas_int2 {K : Kw} : CaS K (fun xs H Q => ((∃ i, xs = [.int i] ∧ Q (.int i) H) ∨ ∃ k, xs = [.bl k] ∧ Q (.int (if k then 1 else 0)) H) ∨ ∃ a n, xs = [.str a] ∧ PySem.intText? a = some n ∧ a.length ≤ 640 ∧ Q (.int n) H) intD2 := by
  intro L io H S xs l d S' Q sr rv e q
  unfold intD2 at e
  split at e
  · rename_i i
    cases e
    cases rv with
    | cons r t =>
      cases t
      have r := r.vr rfl
      cases r
      exact .inl (.inl ⟨_, rfl, q _ H L io (Stp.refl ..) sr (.int _)⟩)
  · rename_i b
    cases e
    cases rv with
    | cons r t =>
      cases t
      have r := r.vr rfl
      cases r
      exact .inl (.inr ⟨_, rfl, q _ H L io (Stp.refl ..) sr (.int _)⟩)
  · rename_i x
    split at e
    · rename_i n hn
      split at e
      · rename_i hl
        cases e
        cases rv with
        | cons r t =>
          cases t
          have r := r.vr rfl
          cases r
          exact .inr ⟨x, n, rfl, hn, hl, q _ H L io (Stp.refl ..) sr (.int _)⟩
      · cases e
    · cases e
  · cases e
end DL
namespace DL
open PySem PySem.Spec PyProof.Rows L2
def whK (s : DS) (again : Env → Sto → Out) (e : Env) (b : Bool) (S : Sto) : Out := if b then (match s e S with
  | .nx e' S' => again e' S'
  | .ct e' S' => again e' S'
  | .bk e' S' => .nx e' S'
  | o => o) else .nx e S
def whR (t : DT) (s : DS) : Nat → DS
  | 0 => fun _ _ => .no
  | n + 1 => sBind t (whK s (whR t s n))
def sWhl (n : Nat) (t : DT) (s : DS) : DS := whR t s n
theorem qs_while {X : Cx} {W : WX} {pos : Pos} {c : Expr} {body : List Stmt} {t : DT} {fb : DS} (n : Nat) (hp : PassesOwn (model X.prog X.w) X.A X.env X.xe) (hc : QT X W c t) (hb : QSs X W body fb) : QS X W (.While c body [] pos) (sWhl n t fb) := ps_imp (ps_while hp hc hb) fun D g H h => by
  refine ⟨fun m g H => rds X.kw W (whR t fb m) D g H, ⟨n, h⟩, fun m g H w => ?_⟩
  cases m with
  | zero =>
    obtain ⟨L0, io0, H0, L, io, e, S, fr, h⟩ := w
    exact h.elim
  | succ m =>
    refine rds_bind (R := fun _ _ _ (v : Bool) d => v = d) (k := whK fb (whR t fb m)) w fun L0 io0 H0 L io H1 e S b v fr r q => ?_
    subst r
    unfold whK at q
    cases v with
    | false => exact iteF (q g H1 L io (Stw.refl ..) fr)
    | true =>
      refine iteT ⟨fun g' H' => rds X.kw W (whR t fb m) D g' H', fun g' H' z => ⟨m, Nat.lt_succ_self m, z⟩, L0, io0, H0, L, io, e, S, fr, ?_⟩
      rw [if_pos rfl] at q
      cases hf : fb e S with
      | nx e' S' =>
        rw [hf] at q
        exact fun g' H' L' io' s fr' => ⟨L0, io0, H0, L', io', e', S', fr', outR.later q s⟩
      | ct e' S' =>
        rw [hf] at q
        exact fun g' H' L' io' s fr' => ⟨L0, io0, H0, L', io', e', S', fr', outR.later q s⟩
      | bk e' S' =>
        rw [hf] at q
        exact fun g' H' L' io' s fr' => q g' H' L' io' s fr'
      | rt d S' => rw [hf] at q; exact q
      | ex c' fs' e' S' => rw [hf] at q; exact q
      | no => rw [hf] at q; exact q
@[simp] theorem whR_succ (n : Nat) (t : DT) (s : DS) (e : Env) (S : Sto) : whR t s (n + 1) e S = kS (whK s (whR t s n)) e (t e S) := ev_sbind ..
abbrev HCl := Nat × List (Str × Bool) × HR Dv
/-- one clause after the other -/
def takeH : List HCl → Str → List (Str × Dv) → Env → Sto → Out
  | [], c, fs, e, S => .ex c fs e S
  | (i, sub, h) :: r, c, fs, e, S => match sub.lookup c with
    | some true => if i < e.length then (match h c fs (e.set i .no) S with
      | .ok d S2 => .rt d S2
      | _ => .no) else .no
    | some false => takeH r c fs e S
    | none => .no
def kTryM (l : List HCl) (els : DS) : Out → Out
  | .ex c fs e' S' => takeH l c fs e' S'
  | .nx e' S' => els e' S'
  | o => o
def sTryM (l : List HCl) (body els : DS) : DS := fun e S => kTryM l els (body e S)
@[simp] theorem ev_tryM (l : List HCl) (body els : DS) (e : Env) (S : Sto) : sTryM l body els e S = kTryM l els (body e S) := rfl
@[simp] theorem kTryM_nx (l : List HCl) (els : DS) (e : Env) (S : Sto) : kTryM l els (.nx e S) = els e S := rfl
@[simp] theorem kTryM_rt (l : List HCl) (els : DS) (d : Dv) (S : Sto) : kTryM l els (.rt d S) = .rt d S := rfl
@[simp] theorem kTryM_ex (l : List HCl) (els : DS) (c : Str) (fs : List (Str × Dv)) (e : Env) (S : Sto) : kTryM l els (.ex c fs e S) = takeH l c fs e S := rfl
end DL
namespace DL
open PySem PySem.Spec PyProof.Rows L2
def notB (os xs : List Str) (S : Sto) (d : Dv) : Bool := match insOf S d with
  | some (c, _) => os.contains c
  | none => match d with
    | .ext 1 c _ _ => xs.contains c
    | _ => false
def tysB : List String → Bool
  | [] => true
  | t :: l => blt.contains t && tysB l
def isaD (os xs : List Str) (S : Sto) : List Dv → Option (Dv × Sto)
  | [d, c] => match isiD S [d, c] with
    | some r => some r
    | none => if notB os xs S d then (match c with
      | .ty t => if blt.contains t then some (.bl false, S) else none
      | .tup cs => (match tysOf cs with
        | some l => if tysB l then some (.bl false, S) else none
        | none => none)
      | _ => none) else none
  | _ => none
end DL
namespace DL
open PySem L2
def optOr {α : Type} : Option α → Option α → Option α
  | some a, _ => some a
  | none, b => b
@[simp] theorem optOr_some {α : Type} (a : α) (b : Option α) : optOr (some a) b = some a := rfl
@[simp] theorem optOr_none {α : Type} (b : Option α) : optOr none b = b := rfl
def isaE (os xs : List Str) (S : Sto) (d c : Dv) : Option (Dv × Sto) := if notB os xs S d then (match c with
      | .ty t => if blt.contains t then some (.bl false, S) else none
      | .tup cs => (match tysOf cs with
        | some l => if tysB l then some (.bl false, S) else none
        | none => none)
      | _ => none) else none
@[simp] theorem isaD_eq (os xs : List Str) (S : Sto) (d c : Dv) : isaD os xs S [d, c] = optOr (isiD S [d, c]) (isaE os xs S d c) := by
  unfold isaD isaE
  simp only
  generalize isiD S [d, c] = o
  cases o with
  | some a => rfl
  | none =>
    simp only [optOr_none]
    all_goals (by_cases h : notB os xs S d = true)
    all_goals (simp only [h, if_true])
    all_goals (try rfl)
    all_goals (cases c <;> rfl)
@[simp] theorem isi_obj (S : Sto) (c : Str) (fs : List (Str × Dv)) (x : Dv) : isiD S [.obj c fs, x] = none := by cases x <;> rfl
@[simp] theorem isi_ext (S : Sto) (t : Nat) (c : Str) (ns : List Str) (fs : List Dv) (x : Dv) : isiD S [.ext t c ns fs, x] = none := by cases x <;> rfl
end DL
namespace DL
open PySem PySem.Spec PyProof.Rows L2
end DL
namespace DL
open PySem PySem.Spec PyProof.Rows L2 LamX
end DL
namespace DL
open PySem PySem.Spec PyProof.Rows L2 LamX
theorem KindE.big {K : Kw} {t : Nat} {c : Str} {ns : List Str} {a : Addr} {vs : List V} {os : List (Addr × HO)} (h : KindE K t c ns a vs os) (ht : 100 ≤ t) : t = 100 + a ∧ (c = "" ∧ vs = [] ∨ c = "p" ∧ vs = [.ref a]) := by
  cases h with
  | exc _ => omega
  | exc0 => omega
  | cod => omega
  | pin e => exact ⟨e, .inl ⟨rfl, rfl⟩⟩
  | pnd e => exact ⟨e, .inr ⟨rfl, rfl⟩⟩
end DL
namespace DL
open PySem PySem.Spec PyProof.Rows L2 LamX
end DL
namespace DL
open PySem PySem.Spec PyProof.Rows L2 LamX
end DL
namespace DL
open PySem PySem.Spec PyProof.Rows L2 LamX
end DL
namespace DL
open PySem PySem.Spec PyProof.Rows L2
def rngI1 (neg : Bool) (a : Dv) (l : List Dv) (S : Sto) : Res Dv := match a, l with
  | .int i, [.int hi] => .ok (.bl (if neg then !decide (0 ≤ i ∧ i < hi) else decide (0 ≤ i ∧ i < hi))) S
  | _, _ => .no
@[simp] theorem rngI1_ok (neg : Bool) (i hi : Int) (S : Sto) : rngI1 neg (.int i) [.int hi] S = .ok (.bl (if neg then !decide (0 ≤ i ∧ i < hi) else decide (0 ≤ i ∧ i < hi))) S := rfl
def eRngIn1 (neg : Bool) (f1 : DE) (fa : DA) : DE := fun e S => bnd (f1 e S) fun a S1 => bnd (fa e S1) fun l S2 => rngI1 neg a l S2
def kRI1 (neg : Bool) (fa : DA) (e : Env) : Dv → Sto → Res Dv := fun a S1 => bnd (fa e S1) fun l S2 => rngI1 neg a l S2
@[simp] theorem ev_rngIn1 {b : Bool} {f1 : DE} {fa : DA} {e : Env} {S : Sto} : eRngIn1 b f1 fa e S = bnd (f1 e S) (kRI1 b fa e) := rfl
@[simp] theorem kRI1_eq {b : Bool} {fa : DA} {e : Env} {S : Sto} (d : Dv) : kRI1 b fa e d S = bnd (fa e S) (rngI1 b d) := rfl
end DL
namespace DL
open PySem PySem.Spec PyProof.Rows L2
def kCatB (d1 d2 : Dv) (S : Sto) : Res (List Dv) := match asH S d1, asH S d2 with
  | some l, some m => if l.length + m.length ≤ sizeLine then .ok (l ++ m) S else .no
  | _, _ => .no
def kCatA (f2 : DE) (e : Env) (d1 : Dv) (S : Sto) : Res (List Dv) := bnd (f2 e S) (kCatB d1)
def fCat (f1 f2 : DE) : DL := fun e S => bnd (f1 e S) (kCatA f2 e)
section
variable (S : Sto) (e : Env) (l : List Dv) (f f1 f2 : DE)
@[simp] theorem ev_fCat : fCat f1 f2 e S = bnd (f1 e S) (kCatA f2 e) := rfl
@[simp] theorem kCatA_eq (d : Dv) : kCatA f2 e d S = bnd (f2 e S) (kCatB d) := rfl
end
end DL
namespace DL
open PySem L2
def rngK2 (a : Int) (d : Dv) (S : Sto) : Res (List Dv) := match d with
  | .int b => if 0 ≤ a ∧ a ≤ 16777216 ∧ 0 ≤ b ∧ b ≤ 16777216 then .ok (rngD a (b - a).toNat) S else .no
  | _ => .no
def rngKA (f2 : DE) (e : Env) (d : Dv) (S : Sto) : Res (List Dv) := match d with
  | .int a => bnd (f2 e S) (rngK2 a)
  | _ => .no
def fRng2 (f1 f2 : DE) : DL := fun e S => bnd (f1 e S) (rngKA f2 e)
section
variable (S : Sto) (e : Env) (f1 f2 : DE)
@[simp] theorem ev_fRng2 : fRng2 f1 f2 e S = bnd (f1 e S) (rngKA f2 e) := rfl
@[simp] theorem rngKA_int (a : Int) : rngKA f2 e (.int a) S = bnd (f2 e S) (rngK2 a) := rfl
end
end DL
namespace DL
open PySem L2
end DL
namespace DL
open PySem L2
end DL
namespace DL
open PySem L2
def addL (a b : Dv) (S : Sto) : Res (List Dv) := match asH S a with
  | some l => match asH S b with
    | some m => if l.length + m.length ≤ sizeLine then .ok (l ++ m) S else .no
    | none => .no
  | none => .no
def kAddL (f2 : DE) (e : Env) (a : Dv) (S1 : Sto) : Res (List Dv) := bnd (f2 e S1) (addL a)
def fAddL (f1 f2 : DE) : DL := fun e S => bnd (f1 e S) (kAddL f2 e)
@[simp] theorem ev_fAddL (f1 f2 : DE) (e : Env) (S : Sto) : fAddL f1 f2 e S = bnd (f1 e S) (kAddL f2 e) := rfl
@[simp] theorem ev_kAddL (f2 : DE) (e : Env) (a : Dv) (S : Sto) : kAddL f2 e a S = bnd (f2 e S) (addL a) := rfl
end DL
namespace DL
open PySem PySem.Spec PyProof.Rows L2
def nxR : Res Dv → Res Dv
  | .ok d S => .ok d S
  | _ => .no
@[simp] theorem nxR_ok (d : Dv) (S : Sto) : nxR (.ok d S) = .ok d S := rfl
def kProp (c : Str) (g : DF) (d : Dv) (S : Sto) : Res Dv := match insOf S d with
  | some (c', _) => if c' = c then nxR (g S [d]) else .no
  | none => .no
def eProp (c : Str) (g : DF) (fo : DE) : DE := fun e S => bnd (fo e S) (kProp c g)
@[simp] theorem ev_prop {c : Str} {g : DF} {fo : DE} {e : Env} {S : Sto} : eProp c g fo e S = bnd (fo e S) (kProp c g) := rfl
end DL
namespace DL
open PySem PySem.Spec PyProof.Rows L2
def kEqY (neg : Bool) (c c2 : Str) (g : DF) (a b : Dv) (S : Sto) : Res Dv := match insOf S a with
  | some (c', _) => match insOf S b with
    | some (d', _) => if c' = c ∧ d' = c2 then blR neg (g S [a, b]) else .no
    | none => .no
  | none => .no
def eEqY (neg : Bool) (c c2 : Str) (g : DF) (f1 f2 : DE) : DE := fun e S => bnd (f1 e S) fun a S1 => bnd (f2 e S1) fun b S2 => kEqY neg c c2 g a b S2
def kEqYA (neg : Bool) (c c2 : Str) (g : DF) (f2 : DE) (e : Env) (a : Dv) (S1 : Sto) : Res Dv := bnd (f2 e S1) (kEqY neg c c2 g a)
@[simp] theorem ev_eqY {neg : Bool} {c c2 : Str} {g : DF} {f1 f2 : DE} {e : Env} {S : Sto} : eEqY neg c c2 g f1 f2 e S = bnd (f1 e S) (kEqYA neg c c2 g f2 e) := rfl
@[simp] theorem ev_kEqYA {neg : Bool} {c c2 : Str} {g : DF} {f2 : DE} {e : Env} {a : Dv} {S : Sto} : kEqYA neg c c2 g f2 e a S = bnd (f2 e S) (kEqY neg c c2 g a) := rfl
end DL
namespace DL
open PySem L2
section
variable {α β : Type}
def Wp (r : Res α) (Q : Res α → Prop) : Prop := Q r
def Wo (o : Out) (Q : Out → Prop) : Prop := Q o
def kb (k : α → Sto → Res β) (Q : Res β → Prop) (r : Res α) : Prop := Q (bnd r k)
def kr (Q : Res Dv → Prop) (o : Out) : Prop := Q (kRun o)
def kq (s : DS) (Q : Out → Prop) (o : Out) : Prop := Q (kSeq s o)
def ks (k : Env → α → Sto → Out) (e : Env) (Q : Out → Prop) (r : Res α) : Prop := Q (kS k e r)
def kl (Q : Res (List Dv) → Prop) (r : Res (List Dv)) : Prop := Q (kLcEnd r)
variable {k : α → Sto → Res β} {r : Res α} {Q : Res β → Prop} {QA : Res α → Prop} {QD : Res Dv → Prop} {QL : Res (List Dv) → Prop} {QO : Out → Prop} {kk : Env → α → Sto → Out} {s : DS} {e e' : Env} {S : Sto} {a : α} {d : Dv} {c : Str} {fs : List (Str × Dv)} {o : Out} {l : List Dv} {rl : Res (List Dv)}
@[simp] theorem Wp_bnd : Wp (bnd r k) Q = Wp r (kb k Q) := rfl
@[simp] theorem Wp_kb_ok : Wp (.ok a S) (kb k Q) = Wp (k a S) Q := rfl
@[simp] theorem Wp_kb_ex : Wp (.ex c fs S) (kb k Q) = Wp (.ex c fs S) Q := rfl
@[simp] theorem Wp_run : Wp (kRun o) QD = Wo o (kr QD) := rfl
@[simp] theorem Wo_kr_rt : Wo (.rt d S) (kr QD) = Wp (.ok d S) QD := rfl
@[simp] theorem Wo_kr_nx : Wo (.nx e S) (kr QD) = Wp (.ok .non S) QD := rfl
@[simp] theorem Wo_kr_ex : Wo (.ex c fs e S) (kr QD) = Wp (.ex c fs S) QD := rfl
@[simp] theorem Wo_seq : Wo (kSeq s o) QO = Wo o (kq s QO) := rfl
@[simp] theorem Wo_kq_nx : Wo (.nx e S) (kq s QO) = Wo (s e S) QO := rfl
@[simp] theorem Wo_kq_rt : Wo (.rt d S) (kq s QO) = Wo (.rt d S) QO := rfl
@[simp] theorem Wo_kq_bk : Wo (.bk e S) (kq s QO) = Wo (.bk e S) QO := rfl
@[simp] theorem Wo_kq_ct : Wo (.ct e S) (kq s QO) = Wo (.ct e S) QO := rfl
@[simp] theorem Wo_kq_ex : Wo (.ex c fs e S) (kq s QO) = Wo (.ex c fs e S) QO := rfl
@[simp] theorem Wo_kS : Wo (kS kk e r) QO = Wp r (ks kk e QO) := rfl
@[simp] theorem Wp_ks_ok : Wp (.ok a S) (ks kk e QO) = Wo (kk e a S) QO := rfl
@[simp] theorem Wp_ks_ex : Wp (.ex c fs S) (ks kk e QO) = Wo (.ex c fs e S) QO := rfl
@[simp] theorem Wp_lcEnd : Wp (kLcEnd rl) QL = Wp rl (kl QL) := rfl
end
/-- a loop: I of what is left -/
def fo (I : Env → Sto → Prop) (Q : Out → Prop) : Out → Prop
  | .nx e S => I e S
  | .ct e S => I e S
  | .bk e S => Wo (.nx e S) Q
  | .no => False
  | o => Wo o Q
section
variable {gd : DG} {s : DS} {Q : Out → Prop} {I : Env → Sto → Prop} {e : Env} {S : Sto} {d : Dv} {c : Str} {fs : List (Str × Dv)}
theorem Wo_nx (h : I e S) : Wo (.nx e S) (fo I Q) := h
@[simp] theorem Wo_fo_bk : Wo (.bk e S) (fo I Q) = Wo (.nx e S) Q := rfl
@[simp] theorem Wo_fo_rt : Wo (.rt d S) (fo I Q) = Wo (.rt d S) Q := rfl
@[simp] theorem Wo_fo_ex : Wo (.ex c fs e S) (fo I Q) = Wo (.ex c fs e S) Q := rfl
theorem Wo_for (J : List Dv → Env → Sto → Prop) : ∀ (l : List Dv) {e : Env} {S : Sto}, J l e S → (∀ d r e S, J (d :: r) e S → ∃ e1, gd d e = some e1 ∧ Wo (s e1 S) (fo (J r) Q)) → (∀ e S, J [] e S → Wo (.nx e S) Q) → Wo (forR gd s l e S) Q
  | [], e, S, h, _, hn => hn e S h
  | d :: r, e, S, h, hs, hn => by
    obtain ⟨e1, g1, w⟩ := hs d r e S h
    unfold forR
    simp only [g1]
    cases hb : s e1 S with
    | nx e2 S2 => rw [hb] at w; exact Wo_for J r w hs hn
    | ct e2 S2 => rw [hb] at w; exact Wo_for J r w hs hn
    | bk e2 S2 => rw [hb] at w; exact w
    | rt d2 S2 => rw [hb] at w; exact w
    | ex c fs e2 S2 => rw [hb] at w; exact w
    | no => rw [hb] at w; exact w.elim
end
/-- a comprehension -/
def lq (I : Sto → Prop) (P : Dv → Prop) : Res Dv → Prop
  | .ok d S => I S ∧ P d
  | _ => False
def lt (I : Sto → Prop) (te : DE) (e1 : Env) (P : Option Dv → Prop) : Res Bool → Prop
  | .ok true S => Wp (te e1 S) (lq I fun d => P (some d))
  | .ok false S => I S ∧ P none
  | _ => False
section
variable {I : Sto → Prop} {P : Dv → Prop} {PO : Option Dv → Prop} {te : DE} {e1 : Env} {S : Sto} {d : Dv}
@[simp] theorem Wp_lq : Wp (.ok d S) (lq I P) = (I S ∧ P d) := rfl
@[simp] theorem Wp_lt_t : Wp (.ok true S) (lt I te e1 PO) = Wp (te e1 S) (lq I fun d => PO (some d)) := rfl
@[simp] theorem Wp_lt_f : Wp (.ok false S) (lt I te e1 PO) = (I S ∧ PO none) := rfl
end
/-- what comes of each: Fa d (some y) if y is kept for d, Fa d none if nothing is -/
inductive Keep (Fa : Dv → Option Dv → Prop) : List Dv → List Dv → Prop
  | nil : Keep Fa [] []
  | put {d y : Dv} {l m : List Dv} : Fa d (some y) → Keep Fa l m → Keep Fa (d :: l) (y :: m)
  | out {d : Dv} {l m : List Dv} : Fa d none → Keep Fa l m → Keep Fa (d :: l) m
theorem Keep.len {Fa : Dv → Option Dv → Prop} : ∀ {l m : List Dv}, Keep Fa l m → m.length ≤ l.length
  | _, _, .nil => Nat.le_refl _
  | _, _, .put _ t => by simp only [List.length_cons]; have := t.len; omega
  | _, _, .out _ t => by simp only [List.length_cons]; have := t.len; omega
theorem Keep.all {Fa : Dv → Option Dv → Prop} {P : Dv → Prop} (h : ∀ d y, Fa d (some y) → P y) : ∀ {l m : List Dv}, Keep Fa l m → ∀ y ∈ m, P y
  | _, _, .nil, _, hy => nomatch hy
  | _, _, .put a t, y, hy => by
    rcases List.mem_cons.mp hy with rfl | hy
    · exact h _ _ a
    · exact t.all h y hy
  | _, _, .out _ t, y, hy => t.all h y hy
def kMkB (c : Str) (dl : List Dv) (g : DF) (as : List Dv) (S : Sto) : Res Dv := kMk c g (as ++ dl) S
@[simp] theorem ev_eMk (c : Str) (dl : List Dv) (g : DF) (fa : DA) (e : Env) (S : Sto) : eMk c dl g fa e S = bnd (fa e S) (kMkB c dl g) := rfl
@[simp] theorem isnot_bb (S : Sto) (p q : Bool) : pu2 (isD true) S (.bl p) (.bl q) = some (.bl (!decide (p = q)), S) := rfl
@[simp] theorem ev_tTrue (e : Env) (S : Sto) : tTrue e S = .ok true S := rfl
end DL
namespace DL
open PySem PySem.Spec PyProof.Rows L2
mutual
def pureD : Dv → Bool
  | .tup l => pureDs l
  | .obj _ fs => pureDf fs
  | .lst _ => false
  | .rol _ => false
  | .dic _ => false
  | .hdl _ => false
  | .ext _ _ _ _ => false
  | _ => true
def pureDs : List Dv → Bool
  | [] => true
  | d :: l => pureD d && pureDs l
def pureDf : List (Str × Dv) → Bool
  | [] => true
  | (_, d) :: l => pureD d && pureDf l
end
def sqO (S : Sto) (k : Nat) : Option (List Dv) := match S[k]? with
  | some (.lst l) => some l
  | _ => none
def thaw : Nat → Sto → Dv → Option Dv
  | 0, _, _ => none
  | n + 1, S, d => if noH d then some d else match d with
    | .tup l => (l.mapM (thaw n S)).map .tup
    | .lst l => (l.mapM (thaw n S)).map .lst
    | .hdl k => (sqO S k).bind fun l => (l.mapM (thaw n S)).map .lst
    | _ => none
def thaws (S : Sto) (l : List Dv) : Option (List Dv) := l.mapM (thaw 30 S)
def Lm (L : Addr → Prop) (H : Hp) : Addr → Prop := fun a => L a ∧ ∀ xs, H a ≠ some (.lst xs)
section
variable {K : Kw} {L L' : Addr → Prop} {io io' : List Addr} {H H' : Hp} {S : Sto}
theorem VR.pure (hl : ∀ a o, H a = some o → (∀ xs, o ≠ .lst xs) → ¬ L a → H' a = some o ∧ ¬ L' a) : ∀ {v : V} {d : Dv}, VR K L io H v d → pureD d = true → VR K L' io' H' v d := by
  intro v d h
  refine VR.rec (motive_1 := fun v d _ => pureD d = true → VR K L' io' H' v d) (motive_2 := fun vs ds _ => pureDs ds = true → VRs K L' io' H' vs ds) (motive_3 := fun vs ds _ => True) (motive_4 := fun vs ds _ => pureDf ds = true → VRf K L' io' H' vs ds) ?_ ?_ ?_ ?_ ?_ ?_ ?_ ?_ ?_ ?_ ?_ ?_ ?_ ?_ ?_ ?_ ?_ ?_ ?_ ?_ ?_ h
  · exact fun _ => .non
  · exact fun b _ => .bl b
  · exact fun i _ => .int i
  · exact fun x _ => .str x
  · intro a xs ds nl e _ ih n
    obtain ⟨h1, h2⟩ := hl a _ e (fun xs => by exact fun z => nomatch z) nl
    exact .tup h2 h1 (ih (by simpa [pureD] using n))
  · exact fun h _ ih n => .tupK h (ih (by simpa [pureD] using n))
  · exact fun _ _ _ _ n => by simp [pureD] at n
  · exact fun _ _ _ _ n => by simp [pureD] at n
  · exact fun _ _ _ n => by simp [pureD] at n
  · exact fun _ _ _ _ n => by simp [pureD] at n
  · intro a dx c vs fs nl e _ ih n
    obtain ⟨h1, h2⟩ := hl a _ e (fun xs => by exact fun z => nomatch z) nl
    exact .obj h2 h1 (ih (by simpa [pureD] using n))
  · exact fun _ n => by simp [pureD] at n
  · exact fun x _ => .glo x
  · exact fun n _ => .ty n
  · exact fun _ _ _ _ _ n => by simp [pureD] at n
  · exact fun _ => .nil
  · exact fun _ _ h1 h2 n => by
      simp only [pureDs, Bool.and_eq_true] at n
      exact .cons (h1 n.1) (h2 n.2)
  · trivial
  · intros; trivial
  · exact fun _ => .nil
  · exact fun _ _ h1 h2 n => by
      simp only [pureDf, Bool.and_eq_true] at n
      exact .cons (h1 n.1) (h2 n.2)
theorem PairR.pure (hl : ∀ a o, H a = some o → (∀ xs, o ≠ .lst xs) → ¬ L a → H' a = some o ∧ ¬ L' a) : ∀ {vs : List (Str × V)} {ds : List (Str × Dv)}, PairR (VR K L io H) vs ds → pureDf ds = true → PairR (VR K L' io' H') vs ds
  | [], _, .nil, _ => .nil
  | _ :: _, (_, _) :: _, .cons ⟨h1, h2⟩ t, n => by
    simp only [pureDf, Bool.and_eq_true] at n
    exact .cons ⟨h1, VR.pure hl h2 n.1⟩ (PairR.pure hl t n.2)
theorem sqO_ok {k : Nat} {l : List Dv} (h : sqO S k = some l) : S[k]? = some (.lst l) := by
  unfold sqO at h
  split at h
  · rename_i heq; cases h; exact heq
  · cases h
theorem lm_no (a : Addr) (o : HO) (e : H a = some o) (n : ¬ L a) : H a = some o ∧ ¬ Lm L H a := ⟨e, fun z => n z.1⟩
theorem thaw_list {n : Nat} (ih : ∀ {v : V} {d d' : Dv}, VR K L io H v d → thaw n S d = some d' → VR K (Lm L H) [] H v d') : ∀ {vs : List V} {l l' : List Dv}, VRs K L io H vs l → l.mapM (thaw n S) = some l' → VRs K (Lm L H) [] H vs l'
  | _, [], _, .nil, e => by
    simp at e
    subst e
    exact .nil
  | _, d :: l, _, .cons h t, e => by
    rw [List.mapM_cons] at e
    cases h1 : thaw n S d with
    | none => rw [h1] at e; cases e
    | some d' =>
      cases h2 : l.mapM (thaw n S) with
      | none => rw [h1, h2] at e; cases e
      | some l2 =>
        rw [h1, h2] at e
        cases e
        exact .cons (ih h h1) (thaw_list ih t h2)
theorem thaw_ok (sr : SR K L io H S) : ∀ (n : Nat) {v : V} {d d' : Dv}, VR K L io H v d → thaw n S d = some d' → VR K (Lm L H) [] H v d'
  | 0, _, _, _, _, e => by cases e
  | n + 1, v, d, d', r, e => by
    unfold thaw at e
    split at e
    · rename_i hn
      cases e
      exact r.noh (fun a o e n => lm_no a o e n) hn
    · rename_i hnn
      cases r with
      | tup nl e1 t =>
        rename_i ds
        simp only at e
        cases h : ds.mapM (thaw n S) with
        | none => rw [h] at e; cases e
        | some l' => rw [h] at e; cases e; exact .tup (lm_no _ _ e1 nl).2 e1 (thaw_list (thaw_ok sr n) t h)
      | tupK h1 t =>
        rename_i ds
        simp only at e
        cases h : ds.mapM (thaw n S) with
        | none => rw [h] at e; cases e
        | some l' => rw [h] at e; cases e; exact .tupK h1 (thaw_list (thaw_ok sr n) t h)
      | lst nl e1 t =>
        rename_i ds
        simp only at e
        cases h : ds.mapM (thaw n S) with
        | none => rw [h] at e; cases e
        | some l' => rw [h] at e; cases e; exact .lst (lm_no _ _ e1 nl).2 e1 (thaw_list (thaw_ok sr n) t h)
      | hdl hk =>
        rename_i a k
        simp only at e
        cases hs : sqO S k with
        | none => rw [hs] at e; cases e
        | some l =>
          rw [hs] at e
          simp only [Option.bind_some] at e
          obtain ⟨xs, e1, t⟩ := sr.obj k a _ hk (sqO_ok hs)
          cases h : l.mapM (thaw n S) with
          | none => rw [h] at e; cases e
          | some l' => rw [h] at e; cases e; exact .lst (fun z => z.2 xs e1) e1 (thaw_list (thaw_ok sr n) t h)
      | _ => cases e
theorem sr_none (sr : SR K L io H S) : SR K (Lm L H) [] H [] := ⟨rfl, List.nodup_nil, (fun _ h => nomatch h), (fun a h => sr.dom a h.1), fun k a o e _ => by simp at e⟩
end
def kLend (S : Sto) : Res Dv → Res Dv
  | .ok d _ => if pureD d = true then .ok d S else .no
  | .ex c fs _ => if pureDf fs = true then .ex c fs S else .no
  | .no => .no
def kLendF (g : DF) (as : List Dv) (S : Sto) : Res Dv := match thaws S as with
  | some l => kLend S (g [] l)
  | none => .no
section
variable {K : Kw} {L : Addr → Prop} {io : List Addr} {H : Hp} {S : Sto}
theorem lend_back (sr : SR K L io H S) {L' : Addr → Prop} {io' : List Addr} {H' : Hp} (s : Stp (Lm L H) [] H L' io' H') : Stp L io H L io H' ∧ SR K L io H' S := by
  have keep : ∀ a o, H a = some o → H' a = some o := fun a o e => s.keep a o e (fun z => nomatch z)
  have st1 : Stp L io H L io H' := ⟨⟨[], by simp⟩, fun _ h => .inl h, fun _ h => .inl h, fun a o e _ => keep a o e, fun _ h => h⟩
  refine ⟨st1, ⟨sr.len, sr.nd, sr.sub, fun a ha => ?_, fun k a o h1 h2 => ?_⟩⟩
  · cases e : H a with
    | none => exact absurd e (sr.dom a ha)
    | some o => rw [keep a o e]; exact fun z => nomatch z
  · exact (sr.obj k a o h1 h2).mono (fun u e => keep a u e) fun v d r => r.step st1 sr.sub
theorem lend_hl (sr : SR K L io H S) {L' : Addr → Prop} {io' : List Addr} {H' : Hp} (s : Stp (Lm L H) [] H L' io' H') (a : Addr) (o : HO) (e : H' a = some o) (hn : ∀ xs, o ≠ .lst xs) (nl : ¬ L' a) : H' a = some o ∧ ¬ L a := by
  refine ⟨e, fun la => nl (s.up a ⟨la, fun xs z => ?_⟩)⟩
  have z2 := s.keep a _ z (fun z => nomatch z)
  rw [e] at z2
  cases z2
  exact hn xs rfl
theorem lend_fin {W : WX} {st : L2.St} {Q : VK} {r : Res Dv} (sr : SR K L io H S) (q : Fin K W (VR K) st L io H Q (kLend S r)) : Fin K W (VR K) st (Lm L H) [] H Q r := by
  cases r with
  | no => exact q
  | ok d S' =>
    unfold kLend at q
    simp only at q
    split at q
    · rename_i hp
      intro v H' L' io' s sr' rv
      obtain ⟨s1, sr1⟩ := lend_back sr s
      exact q v H' L io s1 sr1 (rv.pure (lend_hl sr s) hp)
    · exact q.elim
  | ex c fs S' =>
    unfold kLend at q
    simp only at q
    split at q
    · rename_i hp
      intro x H' L' io' s sr' rx
      obtain ⟨s1, sr1⟩ := lend_back sr s
      rcases rx with rx | ⟨a, ws, e1, e2, e3, e4⟩
      · exact q x H' L io s1 sr1 (.inl rx)
      exact q x H' L io s1 sr1 (.inr ⟨a, ws, e1, (lend_hl sr s a _ e3 (fun xs => by exact fun z => nomatch z) e2).2, e3, PairR.pure (lend_hl sr s) e4 hp⟩)
    · exact q.elim
/-- C(..) over lent arguments -/
def kMkL (c : Str) (g : DF) (as : List Dv) (S : Sto) : Res Dv := kLendF (fun S l => kMk c g l S) as S
end
def eMkL (c : Str) (dl : List Dv) (g : DF) (fa : DA) : DE := fun e S => bnd (fa e S) fun as S1 => kMkL c g (as ++ dl) S1
/-- o.m(..) over lent things -/
def kMethL (c m : Str) (dl : List Dv) (g : DF) (fa : DA) (e : Env) (d : Dv) (S : Sto) : Res Dv := match insOf S d with
  | some (c', fs) => if c' = c ∧ (fs.lookup m).isNone = true then bnd (fa e S) fun as S2 => kLendF g (d :: (as ++ dl)) S2 else .no
  | none => .no
def eMethL (c m : Str) (dl : List Dv) (g : DF) (fo : DE) (fa : DA) : DE := fun e S => bnd (fo e S) (kMethL c m dl g fa e)
section
variable (S : Sto) (e : Env) (d : Dv) (l l' : List Dv) (f f1 f2 fo : DE) (fa : DA) (c m : Str) (g : DF) (dl : List Dv) (i : Nat)
def kMkLB (c : Str) (dl : List Dv) (g : DF) (as : List Dv) (S : Sto) : Res Dv := kMkL c g (as ++ dl) S
@[simp] theorem ev_eMkL : eMkL c dl g fa e S = bnd (fa e S) (kMkLB c dl g) := rfl
@[simp] theorem ev_kMkLB : kMkLB c dl g l S = kMkL c g (l ++ dl) S := rfl
@[simp] theorem ev_methL : eMethL c m dl g fo fa e S = bnd (fo e S) (kMethL c m dl g fa e) := rfl
end
end DL
namespace DL
open PySem L2
def forH (k : Nat) (gd : DG) (body : DS) : Nat → Nat → Env → Sto → Out
  | 0, i, e, S => match sqO S k with
    | none => .no
    | some l => if l.length ≤ i then .nx e S else .no
  | n + 1, i, e, S => match sqO S k with
    | none => .no
    | some l => match l[i]? with
      | none => .nx e S
      | some d => match gd d e with
        | none => .no
        | some e' => match body e' S with
          | .nx e1 S1 => forH k gd body n (i + 1) e1 S1
          | .ct e1 S1 => forH k gd body n (i + 1) e1 S1
          | .bk e1 S1 => .nx e1 S1
          | o => o
def kForH (gd : DG) (body : DS) (e : Env) (d : Dv) (S : Sto) : Out := match d with
  | .hdl k => (match sqO S k with
    | some l => forH k gd body l.length 0 e S
    | none => .no)
  | _ => .no
def sForH (fi : DE) (gd : DG) (body : DS) : DS := sBind fi (kForH gd body)
theorem sq_at {K : Kw} {L : Addr → Prop} {io : List Addr} {H : Hp} {S : Sto} {k : Nat} {a : Addr} {l : List Dv} (sr : SR K L io H S) (hk : io[k]? = some a) (h : sqO S k = some l) : ∃ xs, SqL K H a xs ∧ VRs K L io H xs l := by
  obtain ⟨xs, e, t⟩ := sr.obj k a _ hk (sqO_ok h)
  exact ⟨xs, SqL.of e, t⟩
theorem rd_forH {K : Kw} {W : WX} {fi : DE} {gd : DG} {body : DS} {vs : List Nat} {D : Ends} {g : L2.St} {H : Hp} (h : rds K W (sForH fi gd body) D g H) : tFor (iList K (rd K W fi)) (tgR K gd vs) (rds K W body) D g H := by
  refine rds_bind (R := VR K) (k := kForH gd body) h fun L0 io0 H0 L1 io1 H1 e S d v fr rv q => ?_
  cases d with
  | hdl k =>
    cases rv with
    | hdl hk =>
      rename_i a
      simp only [kForH] at q
      cases hs : sqO S k with
      | none => rw [hs] at q; exact q.elim
      | some l0 =>
        rw [hs] at q
        simp only at q
        obtain ⟨xs, e1, t1⟩ := sq_at fr.st hk hs
        refine ⟨a, rfl, ⟨xs, e1⟩, fun i m g' H' => ∃ (L' : Addr → Prop) (io' : List Addr) (e' : Env) (S' : Sto), FR K L0 io0 H0 L' io' H' g' e' S' ∧ Stw L1 io1 H1 L' io' H' ∧ outR K W L0 io0 H0 D L' io' H' (forH k gd body m i e' S'),
          ⟨l0.length, L1, io1, e, S, fr, Stw.refl .., q⟩, ?_⟩
        rintro i m g' H' ⟨L', io', e', S', fr', sw, q⟩
        have hk' : io'[k]? = some a := sw.on.1 k a hk
        cases m with
        | zero =>
          simp only [forH] at q
          cases hs' : sqO S' k with
          | none => rw [hs'] at q; exact q.elim
          | some l =>
            rw [hs'] at q
            simp only at q
            obtain ⟨ys, e2, t2⟩ := sq_at fr'.st hk' hs'
            split at q
            · rename_i hle
              exact .inl ⟨⟨ys, e2, by rw [t2.len]; exact hle⟩, q g' H' L' io' (Stw.refl ..) fr'⟩
            · exact q.elim
        | succ n =>
          simp only [forH] at q
          cases hs' : sqO S' k with
          | none => rw [hs'] at q; exact q.elim
          | some l =>
            rw [hs'] at q
            simp only at q
            obtain ⟨ys, e2, t2⟩ := sq_at fr'.st hk' hs'
            cases hd : l[i]? with
            | none =>
              rw [hd] at q
              simp only at q
              have hle : l.length ≤ i := by
                rcases Nat.lt_or_ge i l.length with z | z
                · rw [List.getElem?_eq_getElem z] at hd; cases hd
                · exact z
              exact .inl ⟨⟨ys, e2, by rw [t2.len]; exact hle⟩, q g' H' L' io' (Stw.refl ..) fr'⟩
            | some d =>
              rw [hd] at q
              simp only at q
              obtain ⟨x, h1, h2⟩ := t2.get hd
              refine .inr ⟨⟨ys, x, e2, h1⟩, fun g'' H'' => ∃ m', m' < n + 1 ∧ ∃ (L' : Addr → Prop) (io' : List Addr) (e' : Env) (S' : Sto), FR K L0 io0 H0 L' io' H'' g'' e' S' ∧ Stw L1 io1 H1 L' io' H'' ∧ outR K W L0 io0 H0 D L' io' H'' (forH k gd body m' (i + 1) e' S'), fun _ _ h => h, fun x' H2 y => ?_⟩
              obtain ⟨eH, y⟩ := y
              subst eH
              have ex := y ys e2
              rw [h1] at ex
              cases ex
              cases hg : gd d e' with
              | none => rw [hg] at q; exact q.elim
              | some e2 =>
                rw [hg] at q
                simp only at q
                refine ⟨L0, io0, H0, L', io', e', S', d, e2, fr', h2, hg, fun g3 fr3 _ _ => ⟨L0, io0, H0, L', io', e2, S', fr3, ?_⟩⟩
                cases hb : body e2 S' with
                | nx e1 S1 =>
                  rw [hb] at q
                  exact fun g4 H4 L4 io4 s4 fr4 => ⟨n, by omega, L4, io4, e1, S1, fr4, sw.trans s4, outR.later q s4⟩
                | ct e1 S1 =>
                  rw [hb] at q
                  exact fun g4 H4 L4 io4 s4 fr4 => ⟨n, by omega, L4, io4, e1, S1, fr4, sw.trans s4, outR.later q s4⟩
                | bk e1 S1 =>
                  rw [hb] at q
                  exact fun g4 H4 L4 io4 s4 fr4 => q g4 H4 L4 io4 s4 fr4
                | rt d1 S1 => rw [hb] at q; exact q
                | ex c fs e1 S1 =>
                  rw [hb] at q
                  exact fun x g4 H4 L4 io4 s4 fr4 r4 => q x g4 H4 L4 io4 s4 fr4 r4
                | no => rw [hb] at q; exact q
  | _ => exact q.elim
section
variable {X : Cx} {W : WX} {pos : Pos} {tg iter : Expr} {body : List Stmt} {fi : DE} {gd : DG} {fb : DS} {vs : List Nat}
theorem qs_forH (hp : PassesOwn (model X.prog X.w) X.A X.env X.xe) (hc : X.calm = true) (hi : QE X W iter fi) (hg : QG X tg gd vs) (hb : QSs X W body fb) (hs : ∀ x, foldedSetIterable iter X.env x = pure x := by intro _; rfl) : QS X W (.For tg iter body [] pos) (sForH fi gd fb) :=
  ps_imp (ps_for hp hc (pi_list hi) hg.canon hb hs) fun D g H h => rd_forH h
end
section
variable (S : Sto) (e : Env) (k : Nat) (gd : DG) (body : DS) (fi : DE)
@[simp] theorem ev_forH : sForH fi gd body e S = kS (kForH gd body) e (fi e S) := ev_sbind ..
/-- the list stands through the loop -/
theorem forH_go {P : Env → Sto → Prop} {k : Nat} {l : List Dv} {gd : DG} {body : DS} (hk : ∀ e S, P e S → sqO S k = some l)
    (step : ∀ d ∈ l, ∀ e S, P e S → ∃ e1, gd d e = some e1 ∧ ∃ e2 S2, body e1 S = .nx e2 S2 ∧ P e2 S2) :
    ∀ (n i : Nat) (e : Env) (S : Sto), n + i = l.length → P e S → ∃ e2 S2, forH k gd body n i e S = .nx e2 S2 ∧ P e2 S2
  | 0, i, e, S, h, p => by
    refine ⟨e, S, ?_, p⟩
    simp only [forH, hk e S p]
    rw [if_pos (by omega)]
  | n + 1, i, e, S, h, p => by
    have hi : i < l.length := by omega
    obtain ⟨e1, h1, e2, S2, h2, p2⟩ := step l[i] (List.getElem_mem hi) e S p
    obtain ⟨e3, S3, h3, p3⟩ := forH_go hk step n (i + 1) e2 S2 (by omega) p2
    refine ⟨e3, S3, ?_, p3⟩
    simp only [forH, hk e S p, List.getElem?_eq_getElem hi, h1, h2, h3]
end
end DL
namespace TI
open PySem PySem.Spec PyProof.Rows L2
section
variable {P : Program} {w : World} {A : Around} {E : Value → Shared → Prop} {s : Shared}
theorem call_set_lstI {l : Addr} {items : Array Value} (ns : List Int) {Q : Value → Shared → Prop} (hh : A.handled = none) (hl : s.heap.IsList l items) (hit : IntsAre items.toList ns) (hb : ns.length + 1 < scanBound)
    (h : ∀ (h' : Heap) (tk c : Nat), SetR w h' s.heap.objs.size (fun j => decide (j ∈ ns)) c → c ≤ ns.length → (∀ b o, s.heap.get? b = some o → h'.get? b = some o) → Q (.ref s.heap.objs.size) { s with heap := h', toks := tk }) :
    wpAny (model P w) A (call (.type "set") [.ref l]) Q E s := by
  have hisz : items.size = ns.length := by
    have q := IntsAre.length hit
    rw [Array.length_toList] at q
    exact q
  obtain ⟨c, tl, hmro⟩ := F.called_set.mro
  have hmade := F.called_set.made
  have hsub := F.called_set.sub
  refine wpAny_call (codeAny_of_tree ?_)
  show wpAny _ _ (callAny (.type "set") _) _ _ _
  refine wpAny_pure ⟨Code.quiet_builtin _ (by decide +kernel), codeAny_builtin F.entry_type_call ?_⟩
  rw [Around.under_plain (weight_type_call_type "set" [.ref l] []) rfl]
  have h1 := F.called_set.notType
  have h2 := F.called_set.canCreate
  have hct := F.typeCall_set_1 (.ref l)
  repeat (any_goals (first | assumption | wp_step))

  refine codeAny_mono (code_set_led1 (.ref l) (E := E) (Q₁ := fun obj s₁ => obj = .ref s.heap.objs.size ∧ s₁ = { s with heap := s.heap.push { cls := .type "set", dict := none, data := .set #[] 0 (.fresh 0 0 (!w.params.followText "set-order")) } }) ⟨rfl, rfl⟩) fun r s₁ hr => ?_
  cases r with
  | error e => exact hr
  | ok fl =>
    cases fl with
    | ret obj =>
      obtain ⟨rfl, rfl⟩ := hr
      have hS : (s.heap.push { cls := .type "set", dict := none, data := .set #[] 0 (.fresh 0 0 (!w.params.followText "set-order")) }).get? s.heap.objs.size = some { cls := .type "set", dict := none, data := .set #[] 0 (.fresh 0 0 (!w.params.followText "set-order")) } := Heap.get?_push_size _ rfl
      have hT : Shared.TypeIs { s with heap := s.heap.push { cls := .type "set", dict := none, data := .set #[] 0 (.fresh 0 0 (!w.params.followText "set-order")) } } (.ref s.heap.objs.size) "set" := ⟨_, hS, rfl⟩
      have hli := F.called_set.init.lookup
      have hbi := F.called_set.init.bind (.ref s.heap.objs.size)
      repeat (any_goals (first | assumption | wp_step))

      refine codeAny_mono (codeAny_call_builtin (R := wants (fun r s₂ => r = .none ∧ ∃ h' tk c, s₂ = { s with heap := h', toks := tk } ∧ SetR w h' s.heap.objs.size (fun j => decide (j ∈ ns)) c ∧ c ≤ ns.length ∧
          (∀ b o, s.heap.get? b = some o → h'.get? b = some o)) E) F.called_set.init.plain F.entry_set_init (check_set_init_1 hT ?_)) fun r₂ s₂ hr₂ => ?_
      · obtain ⟨ol, hol, hcl, nl, hdl⟩ := hl
        obtain ⟨ocls, odict, odata, oslots⟩ := ol
        simp only at hcl hdl
        subst hcl; subst hdl
        have hol' : (s.heap.push { cls := .type "set", dict := none, data := .set #[] 0 (.fresh 0 0 (!w.params.followText "set-order")) }).get? l = some { cls := .type "list", dict := odict, data := .seq items nl, slots := oslots } := Heap.get?_push_of_some _ hol
        have hsls := F.sub_list_set
        have hslf := F.sub_list_frozenset
        have hne : (Value.type "list" == Value.type "dict") = false := by decide
        have hl1 : (s.heap.push { cls := .type "set", dict := none, data := .set #[] 0 (.fresh 0 0 (!w.params.followText "set-order")) }).IsList l items := ⟨_, hol', rfl, nl, rfl⟩
        unfold Builtin.«set.__init__» noKeywords Builtin.Frozenset.updateFrom
        generalize hPI : pyIter = PI
        wp_walk
        subst hPI

        refine wpAny_pyIter_list hl1 ?_
        refine wpAny_bind (wpAny_runValue ?_)
        have hlS : l < s.heap.objs.size := Heap.lt_size hol
        have hh3 : A.in1.in1.in1.handled = none := by simp [hh]
        have hz1 : (s.heap.push { cls := .type "set", dict := none, data := .set #[] 0 (.fresh 0 0 (!w.params.followText "set-order")) }).objs.size = s.heap.objs.size + 1 := Heap.size_push ..
        have hneI : l ≠ (s.heap.push { cls := .type "set", dict := none, data := .set #[] 0 (.fresh 0 0 (!w.params.followText "set-order")) }).objs.size := by
          rw [Heap.size_push]; exact Nat.ne_of_lt (Nat.lt_succ_of_lt hlS)
        have hSf : s.heap.objs.size ∉ [(s.heap.push { cls := .type "set", dict := none, data := .set #[] 0 (.fresh 0 0 (!w.params.followText "set-order")) }).objs.size, l] := by
          rw [Heap.size_push]; simp only [List.mem_cons, List.mem_singleton, List.not_mem_nil, or_false, not_or]
          exact ⟨Nat.ne_of_lt (Nat.lt_succ_self _), Nat.ne_of_gt hlS⟩
        have hval : ∀ (i : Nat) (v : Value), items[i]? = some v → ∃ k t, ns[i]? = some k ∧ v = .int k t := fun i v hv => by
          have hi : i < ns.length := by rw [← hisz]; exact (Array.getElem?_eq_some_iff.mp hv).1
          obtain ⟨t, e⟩ := PyProof.Rows.IntsAre.int_at hit i v (by rw [Array.getElem?_toList]; exact hv)
          refine ⟨ns[i], t, List.getElem?_eq_getElem hi, ?_⟩
          rw [e, List.getD_eq_getElem?_getD, List.getElem?_eq_getElem hi] <;> rfl
        refine set_update_ints ((Walks.list hh3 _ l hneI items).toS) s.heap.objs.size
          hSf ns hisz hb hval (items.size - 0) 0 _ (by omega) (Nat.zero_le _)
          ⟨⟨_, Heap.get?_push_size _ rfl, rfl, rfl⟩, (hl1.push _)⟩ ?hS0 ?hR
        case hS0 =>
          have hget : ((s.heap.push { cls := .type "set", dict := none, data := .set #[] 0 (.fresh 0 0 (!w.params.followText "set-order")) }).push { cls := .type "list_iterator", data := .fields #[.ref l, .int 0 0] }).get? s.heap.objs.size
              = some { cls := .type "set", dict := none, data := .set #[] 0 (.fresh 0 0 (!w.params.followText "set-order")) } := Heap.get?_push_of_some _ hS
          exact ⟨0, Nat.le_refl 0, setR_new_at hget⟩
        case hR =>
          intro s' c' hm hc' hS'
          obtain ⟨h', g2, d', tk', os'⟩ := s'
          have eg : g2 = s.gens := hm.gens
          have ed : d' = s.drawn := hm.drawn
          have eo : os' = s.os := hm.os
          subst eg; subst ed; subst eo
          show wpAny _ _ _ _ _ _
          refine wpAny_pure ?_
          show wpAny _ _ (ret Value.none) _ _ _
          rw [hisz] at hc'
          refine wpAny_pure ⟨rfl, h', tk', c', rfl, hS', hc', fun b o e => ?_⟩
          have hb0 : b < s.heap.objs.size := Heap.lt_size e
          have hb1 : b ≠ s.heap.objs.size := Nat.ne_of_lt hb0
          have hb2 : b ≠ (s.heap.push { cls := .type "set", dict := none, data := .set #[] 0 (.fresh 0 0 (!w.params.followText "set-order")) }).objs.size := by
            rw [Heap.size_push]; exact Nat.ne_of_lt (Nat.lt_succ_of_lt hb0)
          exact hm.heap b o (by simp only [List.mem_cons, List.mem_singleton, List.not_mem_nil, or_false, not_or]; exact ⟨hb1, hb2⟩) (Heap.get?_push_of_some _ (Heap.get?_push_of_some _ e))

      · cases r₂ with
        | error e => exact hr₂
        | ok fl₂ =>
          cases fl₂ with
          | ret r =>
            obtain ⟨rfl, h', tk, c', rfl, hS', hc', hk'⟩ := hr₂
            repeat (any_goals (first | assumption | wp_step))
            exact h _ _ _ hS' hc' hk'
          | _ => exact hr₂.elim
    | _ => exact hr.elim
end
def insI (x : Int) : List Int → List Int
  | [] => [x]
  | y :: r => if x = y then y :: r else if x < y then x :: y :: r else y :: insI x r
def srtI (l : List Int) : List Int := l.foldr insI []
theorem mem_insI {x z : Int} : ∀ {l : List Int}, z ∈ insI x l ↔ z = x ∨ z ∈ l
  | [] => by simp [insI]
  | y :: r => by
    unfold insI
    split
    · rename_i h; subst h; simp
    · split
      · simp
      · rw [List.mem_cons, mem_insI, List.mem_cons]
        constructor
        · rintro (h | h | h)
          · exact .inr (.inl h)
          · exact .inl h
          · exact .inr (.inr h)
        · rintro (h | h | h)
          · exact .inr (.inl h)
          · exact .inl h
          · exact .inr (.inr h)
theorem pw_insI {x : Int} : ∀ {l : List Int}, l.Pairwise (· < ·) → (insI x l).Pairwise (· < ·)
  | [], _ => List.pairwise_singleton _ _
  | y :: r, h => by
    have ⟨h1, h2⟩ := List.pairwise_cons.mp h
    unfold insI
    split
    · exact h
    · rename_i hne
      split
      · rename_i hlt
        refine List.pairwise_cons.mpr ⟨fun z hz => ?_, h⟩
        rcases List.mem_cons.mp hz with rfl | hz
        · exact hlt
        · exact Int.lt_trans hlt (h1 z hz)
      · rename_i hlt
        refine List.pairwise_cons.mpr ⟨fun z hz => ?_, pw_insI h2⟩
        rcases mem_insI.mp hz with rfl | hz
        · omega
        · exact h1 z hz
theorem mem_srtI {z : Int} : ∀ {l : List Int}, z ∈ srtI l ↔ z ∈ l
  | [] => Iff.rfl
  | x :: l => by
    show z ∈ insI x (srtI l) ↔ _
    rw [mem_insI, mem_srtI, List.mem_cons]
theorem pw_srtI : ∀ (l : List Int), (srtI l).Pairwise (· < ·)
  | [] => List.Pairwise.nil
  | x :: l => pw_insI (pw_srtI l)
theorem len_le {ks l : List Int} (h1 : ks.Nodup) (h2 : ∀ k ∈ ks, k ∈ l) : ks.length ≤ (srtI l).length :=
  List.Nodup.length_le_of_subset h1 fun k hk => mem_srtI.mpr (h2 k hk)
section
variable {X : Cx}
def rSetIL (K : DL.Kw) (w : World) : List V → Hp → VK → Prop := fun xs H Q => ∃ (l : Addr) (ws : List Int), xs = [V.ref l] ∧ SqL K H l (ws.map V.int) ∧ ws.length + 1 < scanBound ∧
  ∀ a c, c ≤ (srtI ws).length → H a = none → Q (.ref a) (upd H a (SetO w a (fun j => decide (j ∈ ws)) c))
theorem cr_setIL (hc : X.calm = true) : CallR X (.type "set") (rSetIL X.kw X.w) := by
  intro pins s σ H xs us Q I r h
  obtain ⟨l, ws, rfl, hl, hb, q⟩ := h
  rw [Vals.ref1 r]
  obtain ⟨its, rv, pl, hz⟩ := I.list hl
  have hn : H s.heap.objs.size = none := I.hok.fresh (Nat.le_refl _)
  refine call_set_lstI (P := X.prog) (w := X.w) ws (I.ok.hd hc) pl.isList (by simpa using rv.ints) hb fun h' tk c R _ k => ?_
  have hcl : c ≤ (srtI ws).length := by
    obtain ⟨o, es, ep, t, ho, hex, hd, g, nd, hm, hb, hf, hn, hr, hl⟩ := R
    have : c = (es.toList.map keyOf).length := by rw [List.length_map, Array.length_toList]; exact hn.symm
    rw [this]
    exact len_le nd fun k hk => of_decide_eq_true ((hm k).mpr hk)
  exact ⟨.ref s.heap.objs.size, upd H s.heap.objs.size (SetO X.w s.heap.objs.size _ c), I.laid (t' := tk) k (Nat.le_refl _) (setO_new R), rfl, q _ c hcl hn⟩
end
end TI
namespace DL
open PySem PyProof.Rows L2
/-- sorted(set(x)), x a list of ints -/
def srtSetIK (l : List Dv) (S : Sto) : Res (List Dv) := match l with
  | [d] => match (asL S d).bind intsD with
    | some ws => if ws.length ≤ 4000 ∧ (TI.srtI ws).length < 64 then .ok ((TI.srtI ws).map Dv.int) S else .no
    | none => .no
  | _ => .no
def fSrtSetI (fa : DA) : DL := fun e S => bnd (fa e S) srtSetIK
@[simp] theorem ev_srtSetI {fa : DA} {e : Env} {S : Sto} : fSrtSetI fa e S = bnd (fa e S) srtSetIK := rfl
def addBD (S : Sto) : Dv → Dv → Option (Dv × Sto)
  | .int i, .bl b => some (.int (i + b2i b), S)
  | _, _ => none
@[simp] theorem addBD_ib (S : Sto) (i : Int) (b : Bool) : addBD S (.int i) (.bl b) = some (.int (i + if b then 1 else 0), S) := by
  show some (Dv.int (i + b2i b), S) = _
  cases b <;> rfl
end DL
namespace DL
open PySem L2
end DL
namespace DL
open PySem PySem.Spec PyProof.Rows L2
def lenR : Res Dv → Res Dv
  | .ok (.int n) S => if 0 ≤ n ∧ n < 2 ^ 63 then .ok (.int n) S else .no
  | _ => .no
def kLenC (c : Str) (g : DF) (d : Dv) (S : Sto) : Res Dv := match insOf S d with
  | some (c', _) => if c' = c then lenR (g S [d]) else .no
  | none => .no
def eLenC (c : Str) (g : DF) (fo : DE) : DE := fun e S => bnd (fo e S) (kLenC c g)
@[simp] theorem ev_lenC {c : Str} {g : DF} {fo : DE} {e : Env} {S : Sto} : eLenC c g fo e S = bnd (fo e S) (kLenC c g) := rfl
@[simp] theorem kLenC_obj (c : Str) (g : DF) (fs : List (Str × Dv)) (S : Sto) : kLenC c g (.obj c fs) S = lenR (g S [.obj c fs]) := by
  unfold kLenC
  simp only [insOf, if_true]
end DL
namespace DL
open PySem PyProof.Rows L2
/-- sorted(set(x)), x a list of texts, few of them distinct -/
def srtSetBK (l : List Dv) (S : Sto) : Res (List Dv) := match l with
  | [d] => match (asL S d).bind strsD with
    | some ws => if (TX.srtS ws).length ≤ 4000 then .ok ((TX.srtS ws).map Dv.str) S else .no
    | none => .no
  | _ => .no
def fSrtSetB (fa : DA) : DL := fun e S => bnd (fa e S) srtSetBK
/-- sorted(set(x)), x a list of ints -/
def srtSetIBK (l : List Dv) (S : Sto) : Res (List Dv) := match l with
  | [d] => match (asL S d).bind intsD with
    | some ws => if (TI.srtI ws).length < 64 then .ok ((TI.srtI ws).map Dv.int) S else .no
    | none => .no
  | _ => .no
def fSrtSetIB (fa : DA) : DL := fun e S => bnd (fa e S) srtSetIBK
@[simp] theorem ev_srtSetB {fa : DA} {e : Env} {S : Sto} : fSrtSetB fa e S = bnd (fa e S) srtSetBK := rfl
@[simp] theorem ev_srtSetIB {fa : DA} {e : Env} {S : Sto} : fSrtSetIB fa e S = bnd (fa e S) srtSetIBK := rfl
end DL
namespace DL
open PySem L2
mutual
inductive NkV (K : PySem.W.Frag) (H : Hp) : V → NestedKey → Prop
  | non : NkV K H .non .none
  | int (i : Int) : NkV K H (.int i) (.num i)
  | str (x : Str) : NkV K H (.str x) (.text x)
  | tup {a : Addr} {xs : List V} {ks : List NestedKey} : SqT K H a xs → NkVs K H xs ks → NkV K H (.ref a) (.tup ks)
inductive NkVs (K : PySem.W.Frag) (H : Hp) : List V → List NestedKey → Prop
  | nil : NkVs K H [] []
  | cons {v : V} {vs : List V} {k : NestedKey} {ks : List NestedKey} : NkV K H v k → NkVs K H vs ks → NkVs K H (v :: vs) (k :: ks)
end
section
variable {K : Kw} {L : Addr → Prop} {io : List Addr} {H : Hp}
mutual
theorem vr_nk : ∀ (d : Dv) {v : V} {k : NestedKey}, VR K L io H v d → nk d = some k → NkV K.K H v k
  | .non, v, k, r, e => by cases r; cases e; exact .non
  | .int i, v, k, r, e => by cases r; cases e; exact .int i
  | .str x, v, k, r, e => by cases r; cases e; exact .str x
  | .tup l, v, k, r, e => by
    obtain ⟨a, xs, rfl, s, t⟩ := r.tupS
    obtain ⟨ks, h, rfl⟩ := map_ok (show (nks l).map NestedKey.tup = some k from e)
    exact .tup s (vr_nks l t h)
  | .bl _, _, _, _, e => by cases e
  | .lst _, _, _, _, e => by cases e
  | .rol _, _, _, _, e => by cases e
  | .dic _, _, _, _, e => by cases e
  | .obj _ _, _, _, _, e => by cases e
  | .hdl _, _, _, _, e => by cases e
  | .glo _, _, _, _, e => by cases e
  | .ty _, _, _, _, e => by cases e
  | .ext _ _ _ _, _, _, _, e => by cases e
theorem vr_nks : ∀ (l : List Dv) {vs : List V} {ks : List NestedKey}, VRs K L io H vs l → nks l = some ks → NkVs K.K H vs ks
  | [], _, _, .nil, e => by cases e; exact .nil
  | d :: l, _, ks, .cons r t, e => by
    have e : ((nk d).bind fun k => (nks l).map fun ks => k :: ks) = some ks := e
    cases h : nk d with
    | none => rw [h] at e; cases e
    | some k =>
      rw [h] at e
      obtain ⟨ks', h2, rfl⟩ := map_ok (show (nks l).map (fun ks => k :: ks) = some ks from e)
      exact .cons (vr_nk d r h) (vr_nks l t h2)
end
theorem vr_nkT {d : Dv} {v : V} {k : NestedKey} (r : VR K L io H v d) (e : nkT d = some k) : ∃ b, v = .ref b ∧ NkV K.K H (.ref b) k ∧ k.depth ≤ 8 := by
  cases d with
  | tup l =>
    have e : ((nk (.tup l)).bind fun k => if k.depth ≤ 8 then some k else none) = some k := e
    cases h : nk (.tup l) with
    | none => rw [h] at e; cases e
    | some k' =>
      rw [h] at e
      simp only [Option.bind_some] at e
      split at e
      · rename_i hd
        cases e
        obtain ⟨a, xs, rfl, s, t⟩ := r.tupS
        exact ⟨a, rfl, vr_nk _ r h, hd⟩
      · cases e
  | _ => cases e
end
section
variable {X : Cx} {pins : List (Addr × Obj)} {σ : L2.St} {H : Hp} {s : Shared}
mutual
theorem nkv_is (I : Inv X pins σ H s) : ∀ {v : V} {k : NestedKey} {u : Value}, NkV X.K H v k → RelV v u → NestedIs s.heap k u
  | _, _, u, .non, r => by cases (show u = Value.none from r); exact .none
  | _, _, u, .int i, r => by obtain ⟨t, rfl⟩ := (show ∃ t, u = Value.int i t from r); exact .int i t
  | _, _, u, .str x, r => by obtain ⟨t, rfl⟩ := (show ∃ t, u = Value.str x t from r); exact .text x t
  | _, _, u, .tup (a := a) h t, r => by
    cases (show u = Value.ref a from r)
    obtain ⟨its, rv, ⟨o, h1, h2, n, h3⟩, _⟩ := I.tuple h
    exact .tup h1 h2 h3 (by simpa using nkvs_is I t rv)
theorem nkvs_is (I : Inv X pins σ H s) : ∀ {vs : List V} {ks : List NestedKey} {us : List Value}, NkVs X.K H vs ks → Vals vs us → NestedAll s.heap ks us
  | _, _, _, .nil, .nil => .nil
  | _, _, _, .cons h t, .cons r rs => .cons (nkv_is I h r) (nkvs_is I t rs)
end
end
def KyG (K : PySem.W.Frag) (H : Hp) (b : Addr) (k : NestedKey) : Prop := NkV K H (.ref b) k ∧ k.depth ≤ 8
structure DnG (K : PySem.W.Frag) (w : World) (H : Hp) (a : Addr) (es : List (NestedKey × Addr × V)) : Prop where
  at_ : H a = some (dnO w a es)
  ky : ∀ p ∈ es, KyG K H p.2.1 p.1
def atE (es : List (NestedKey × Addr × V)) (k : NestedKey) : Option V := (es.find? fun p => decide (p.1 = k)).map fun p => p.2.2
def putE (es : List (NestedKey × Addr × V)) (k : NestedKey) (b : Addr) (v : V) : List (NestedKey × Addr × V) := if (atE es k).isSome then es.map fun p => if p.1 = k then (p.1, p.2.1, v) else p else es ++ [(k, b, v)]
def EnV : List (NestedKey × Addr × V) → List (NestedKey × Addr × Value) → Prop := Paired fun p x => x.1 = p.1 ∧ x.2.1 = p.2.1 ∧ RelV p.2.2 x.2.2
theorem EnV.keys : ∀ {es : List (NestedKey × Addr × V)} {xs : List (NestedKey × Addr × Value)}, EnV es xs → xs.map (·.1) = es.map (·.1)
  | _, _, .nil => rfl
  | _, _, .cons r t => by rw [List.map_cons, List.map_cons, r.1, EnV.keys t]
theorem EnV.len : ∀ {es : List (NestedKey × Addr × V)} {xs : List (NestedKey × Addr × Value)}, EnV es xs → xs.length = es.length
  | _, _, .nil => rfl
  | _, _, .cons r t => by rw [List.length_cons, List.length_cons, EnV.len t]
theorem EnV.at_ (k : NestedKey) : ∀ {es : List (NestedKey × Addr × V)} {xs : List (NestedKey × Addr × Value)}, EnV es xs → (atKey xs k).isSome = (atE es k).isSome ∧ ∀ v, atE es k = some v → ∃ p, atKey xs k = some p ∧ RelV v p.2
  | _, _, .nil => ⟨rfl, fun _ h => nomatch h⟩
  | p :: es, x :: xs, .cons r t => by
    have ih := EnV.at_ k t
    unfold atKey atE at ih ⊢
    rw [List.find?_cons, List.find?_cons, r.1]
    by_cases h : p.1 = k
    · simp only [decide_eq_true h]
      exact ⟨rfl, fun v e => by cases e; exact ⟨_, rfl, r.2.2⟩⟩
    · simp only [decide_eq_false h]
      exact ih
theorem EnV.map_put {k : NestedKey} {v : V} {u : Value} (rv : RelV v u) : ∀ {es : List (NestedKey × Addr × V)} {xs : List (NestedKey × Addr × Value)}, EnV es xs → EnV (es.map fun p => if p.1 = k then (p.1, p.2.1, v) else p) (xs.map (putAt k u))
  | _, _, .nil => .nil
  | p :: es, x :: xs, .cons r t => by
    refine .cons ?_ (EnV.map_put rv t)
    unfold putAt
    simp only [r.1]
    by_cases h : p.1 = k
    · simp only [if_pos h]; exact ⟨trivial, r.2.1, rv⟩
    · simp only [if_neg h]; exact r
theorem EnV.app {k : NestedKey} {b : Addr} {v : V} {u : Value} (rv : RelV v u) : ∀ {es : List (NestedKey × Addr × V)} {xs : List (NestedKey × Addr × Value)}, EnV es xs → EnV (es ++ [(k, b, v)]) (xs ++ [(k, b, u)])
  | _, _, .nil => .cons ⟨rfl, rfl, rv⟩ .nil
  | _, _, .cons r t => .cons r (EnV.app rv t)
theorem EnV.put {k : NestedKey} {b : Addr} {v : V} {u : Value} (rv : RelV v u) {es : List (NestedKey × Addr × V)} {xs : List (NestedKey × Addr × Value)} (h : EnV es xs) : EnV (putE es k b v) (storedH xs k b u) := by
  unfold putE storedH
  rw [(h.at_ k).1]
  split
  · exact h.map_put rv
  · exact h.app rv
theorem putE_len (es : List (NestedKey × Addr × V)) (k : NestedKey) (b : Addr) (v : V) : (putE es k b v).length ≤ es.length + 1 := by
  unfold putE; split <;> simp
section
variable {X : Cx} {pins : List (Addr × Obj)} {σ : L2.St} {H H' : Hp} {s : Shared} {a b : Addr} {es : List (NestedKey × Addr × V)} {k : NestedKey} {A : Around} {E : Value → Shared → Prop}
theorem dn_of (I : Inv X pins σ H s) (g : DnG X.K X.w H a es) : (a == sysModules) = false ∧ es.length ≤ sizeLine ∧ ∃ xs, EnV es xs ∧ s.heap.DictOfH (nestedKind X.prog X.w) a xs := by
  obtain ⟨⟨h1, h2, h3, xs, h4, o, es', ep, h5, h6, h7, h8⟩, _, _⟩ := (show ObjOk X.prog X.w H s.heap a (dnO X.w a es) from I.hok a _ g.at_)
  refine ⟨h1, h2, xs, h4, o, es', ep, h5, h6, h7, h8, ?_, by rw [EnV.keys h4]; exact h3⟩
  have all : ∀ {es : List (NestedKey × Addr × V)} {xs : List (NestedKey × Addr × Value)}, EnV es xs → (∀ p ∈ es, KyG X.K H p.2.1 p.1) → ∀ x ∈ xs, (nestedKind X.prog X.w).is s.heap x.1 x.2.1 := by
    intro es xs q
    induction q with
    | nil => exact fun _ x hx => nomatch hx
    | @cons p q ps qs hq t ih =>
      intro hk x hx
      rcases List.mem_cons.mp hx with e | hx
      · subst e
        obtain ⟨n1, n2⟩ := hk p (List.mem_cons_self ..)
        rw [hq.1, hq.2.1]
        exact ⟨nkv_is I n1 rfl, n2⟩
      · exact ih (fun p hp => hk p (List.mem_cons_of_mem _ hp)) x hx
  exact all h4 g.ky
theorem dn_ok {P : Program} {w : World} {H : Hp} {h : Heap} {xs : List (NestedKey × Addr × Value)} (h1 : (a == sysModules) = false) (h2 : es.length ≤ sizeLine) (h4 : EnV es xs) (dd : h.DictOfH (nestedKind P w) a xs) : ObjOk P w H h a (dnO w a es) := by
  obtain ⟨o, es', ep, h5, h6, h7, h8, _, h9⟩ := dd
  refine ⟨⟨h1, h2, by rw [← EnV.keys h4]; exact h9, xs, h4, o, es', ep, h5, h6, h7, h8⟩, ⟨o, h5⟩, ?_⟩
  rintro g1 g2 ⟨q1, q2, q3, xs, q4, o, es', ep, q5, q6, q7, q8⟩ hk
  exact ⟨q1, q2, q3, xs, q4, o, es', ep, hk o q5, q6, q7, q8⟩
theorem ky_is (I : Inv X pins σ H s) (g : KyG X.K H b k) : (nestedKind X.prog X.w).is s.heap k b := ⟨nkv_is I g.1 rfl, g.2⟩
theorem n_put {v : V} {u : Value} {h' : Heap} {t' : Nat} {xs : List (NestedKey × Addr × Value)} (I : Inv X pins σ H s) (g : DnG X.K X.w H a es) (rel : EnV es xs) (hd : (a == sysModules) = false) (hl : es.length < sizeLine) (rv : RelV v u) (dd' : h'.DictOfH (nestedKind X.prog X.w) a (storedH xs k b u)) (hs : Heap.SameBut a s.heap h') :
    Inv X pins σ (upd H a (dnO X.w a (putE es k b v))) { s with heap := h', toks := t' } := by
  have he : ∃ q, h'.get? a = some q := let ⟨q, _, _, hq, _⟩ := dd'; ⟨q, hq⟩
  exact d_write I (by rw [g.at_]; exact True.intro) hs he (dn_ok hd (by have := putE_len es k b v; omega) (rel.put rv) dd')
theorem n_default {v : V} {r : Value} {Q : Value → Shared → Prop} (hu : A.units + 16 < cLine) (I : Inv X pins σ H s) (g : DnG X.K X.w H a es) (gk : KyG X.K H b k) (hl : es.length < sizeLine) (rv : RelV v r)
    (h1 : ∀ v', atE es k = some v' → ∀ w' s', Inv X pins σ H s' → RelV v' w' → Q w' s') (h2 : atE es k = none → ∀ s', Inv X pins σ (upd H a (dnO X.w a (putE es k b v))) s' → Q r s') :
    wpAny (model X.prog X.w) A (call (.builtin "dict.setdefault") [.ref a, .ref b, r]) Q E s := by
  obtain ⟨hd, hz, xs, rel, dd⟩ := dn_of I g
  have hat := rel.at_ k
  refine call_setdefault_heap (hsz := by rw [rel.len]; exact hz) (show A.units + 1 + 8 < cLine by omega) (ky_is I gk) hd dd (fun p hp => ?_) fun hn h' dd' hb => ?_
  · have hs : (atE es k).isSome = true := by rw [← hat.1, hp]; rfl
    obtain ⟨v', hv⟩ := Option.isSome_iff_exists.mp hs
    obtain ⟨p', hp', rp⟩ := hat.2 v' hv
    rw [hp] at hp'
    cases hp'
    exact h1 v' hv _ _ (I.tok _) rp
  · have hs : (atE es k).isSome = false := by rw [← hat.1, hn]; rfl
    exact h2 (Option.isNone_iff_eq_none.mp (by simpa using hs)) _ (n_put I g rel hd hl rv dd' hb)
theorem n_type (I : Inv X pins σ H s) (g : DnG X.K X.w H a es) : s.TypeIs (.ref a) "dict" := (dn_of I g).2.2.choose_spec.2.typeIs
end
end DL
namespace DL
open PySem L2
def lookN (l : List (Dv × Dv)) (k : NestedKey) : Option Dv := (l.find? fun p => decide (nkT p.1 = some k)).map fun p => p.2
def putN (l : List (Dv × Dv)) (d : Dv) (k : NestedKey) (v : Dv) : List (Dv × Dv) := if (lookN l k).isSome then l.map fun p => if nkT p.1 = some k then (p.1, v) else p else l ++ [(d, v)]
def nAt (S : Sto) (d : Dv) : Option (List (Dv × Dv)) := match d with
  | .hdl j => (match S[j]? with
    | some (.dcn l) => some l
    | _ => none)
  | _ => none
section
variable {K : Kw} {L : Addr → Prop} {io : List Addr} {H : Hp} {S : Sto} {R : V → Dv → Prop}
theorem en_at (k : NestedKey) : ∀ {es : List (NestedKey × Addr × V)} {l : List (Dv × Dv)}, EnR R es l → (atE es k).isSome = (lookN l k).isSome ∧ ∀ d, lookN l k = some d → ∃ v, atE es k = some v ∧ R v d
  | _, _, .nil => ⟨rfl, fun _ h => nomatch h⟩
  | p :: es, x :: l, .cons r t => by
    have ih := en_at k t
    unfold lookN atE at ih ⊢
    rw [List.find?_cons, List.find?_cons, r.2.1]
    by_cases h : p.1 = k
    · have h2 : (some p.1 = some k) := by rw [h]
      simp only [decide_eq_true h, decide_eq_true h2]
      exact ⟨rfl, fun v e => by cases e; exact ⟨_, rfl, r.2.2⟩⟩
    · have h2 : ¬ (some p.1 = some k) := fun z => h (Option.some.inj z)
      simp only [decide_eq_false h, decide_eq_false h2]
      exact ih
theorem en_map {k : NestedKey} {v : V} {d : Dv} (rv : R v d) : ∀ {es : List (NestedKey × Addr × V)} {l : List (Dv × Dv)}, EnR R es l → EnR R (es.map fun p => if p.1 = k then (p.1, p.2.1, v) else p) (l.map fun p => if nkT p.1 = some k then (p.1, d) else p)
  | _, _, .nil => .nil
  | p :: es, x :: l, .cons r t => by
    refine .cons ?_ (en_map rv t)
    simp only [r.2.1]
    by_cases h : p.1 = k
    · have h2 : (some p.1 = some k) := by rw [h]
      simp only [if_pos h, if_pos h2]; exact ⟨r.1, r.2.1, rv⟩
    · have h2 : ¬ (some p.1 = some k) := fun z => h (Option.some.inj z)
      simp only [if_neg h, if_neg h2]; exact r
theorem en_app {k : NestedKey} {b : Addr} {kd : Dv} {v : V} {d : Dv} (rk : R (.ref b) kd) (hk : nkT kd = some k) (rv : R v d) : ∀ {es : List (NestedKey × Addr × V)} {l : List (Dv × Dv)}, EnR R es l → EnR R (es ++ [(k, b, v)]) (l ++ [(kd, d)])
  | _, _, .nil => .cons ⟨rk, hk, rv⟩ .nil
  | _, _, .cons r t => .cons r (en_app rk hk rv t)
theorem en_put {k : NestedKey} {b : Addr} {kd : Dv} {v : V} {d : Dv} (rk : R (.ref b) kd) (hk : nkT kd = some k) (rv : R v d) {es : List (NestedKey × Addr × V)} {l : List (Dv × Dv)} (h : EnR R es l) : EnR R (putE es k b v) (putN l kd k d) := by
  unfold putE putN
  rw [(en_at k h).1]
  split
  · exact en_map rv h
  · exact en_app rk hk rv h
theorem en_len : ∀ {es : List (NestedKey × Addr × V)} {l : List (Dv × Dv)}, EnR R es l → es.length = l.length
  | _, _, .nil => rfl
  | _, _, .cons _ t => by rw [List.length_cons, List.length_cons, en_len t]
theorem en_ky : ∀ {es : List (NestedKey × Addr × V)} {l : List (Dv × Dv)}, EnR (VR K L io H) es l → ∀ p ∈ es, KyG K.K H p.2.1 p.1
  | _, _, .nil, _, h => nomatch h
  | p :: es, x :: l, .cons r t, q, hq => by
    rcases List.mem_cons.mp hq with e | hq
    · subst e
      obtain ⟨b, e, h1, h2⟩ := vr_nkT r.1 r.2.1
      cases e
      exact ⟨h1, h2⟩
    · exact en_ky t q hq
theorem nAt_ok (sr : SR K L io H S) {v : V} {d : Dv} {l : List (Dv × Dv)} (r : VR K L io H v d) (h : nAt S d = some l) : ∃ a es j, v = .ref a ∧ d = .hdl j ∧ io[j]? = some a ∧ S[j]? = some (.dcn l) ∧ DnG K.K K.w H a es ∧ EnR (VR K L io H) es l := by
  cases d with
  | hdl j =>
    unfold nAt at h
    simp only at h
    split at h
    · rename_i hS
      cases h
      cases r with
      | hdl hk =>
        obtain ⟨_, es, e, t⟩ := sr.obj j _ _ hk hS
        exact ⟨_, es, j, rfl, rfl, hk, hS, ⟨e, en_ky t⟩, t⟩
    · cases h
  | _ => cases h
end
section
variable {X : Cx} {W : WX} {pos pos' : Pos} {o i a : Expr} {f f1 f2 fv fo fi : DE} {kk : Nat} {ty td tv : TE}
theorem hu16 {A : Around} {k : Nat} (hr : Room k A) : A.units + 16 < cLine := by have := hr.un; omega
def nputH (S : Sto) (o i v : Dv) : Option Sto := match o with
  | .hdl j => (match S[j]? with
    | some (.dcn l) => (nkT i).bind fun k => if l.length < sizeLine then some (S.set j (.dcn (putN l i k v))) else none
    | _ => none)
  | _ => none
def sNPut (fo fi fv : DE) : DS := sBind fv fun e v S1 => sBind fo (fun e o S2 => sBind fi (fun e i S3 => match nputH S3 o i v with
  | some S4 => .nx e S4
  | none => .no) e S2) e S1
theorem SR.putN {K : Kw} {L : Addr → Prop} {io : List Addr} {H : Hp} {S : Sto} {j : Nat} {a b : Addr} {es : List (NestedKey × Addr × V)} {l : List (Dv × Dv)} {k : NestedKey} {v : V} {kd d : Dv} (sr : SR K L io H S) (hk : io[j]? = some a) (t : EnR (VR K L io H) es l) (rk : VR K L io H (.ref b) kd) (hkd : nkT kd = some k) (rv : VR K L io H v d) :
    SR K L io (upd H a (dnO K.w a (putE es k b v))) (S.set j (.dcn (putN l kd k d))) := by
  have ma : a ∈ io := List.mem_of_getElem? hk
  exact sr.setH hk ⟨ma, _, upd_same, (en_put rk hkd rv t).mono fun v d r => r.mut (sr.sub a ma)⟩
def eNewN : DE := fun _ S => .ok (.hdl S.length) (S ++ [.dcn []])
theorem dn_empty {P : Program} {w : World} {H : Hp} (h : Heap) (hb : sysModules < h.objs.size) : ObjOk P w H (h.push { cls := .type "dict", data := .dict #[] }) h.objs.size (dnO w h.objs.size []) :=
  dn_ok (es := []) (xs := []) (beq_eq_false_iff_ne.mpr (Ne.symm (Nat.ne_of_lt hb))) (Nat.zero_le _) .nil (Heap.DictOfH.new h)
theorem pe_dnewN : PE X (.Dict [] [] pos) (fun _ H Q => ∀ p, H p = none → Q (.ref p) (upd H p (dnO X.w p []))) := ⟨fun pins s σ H Q I h =>
  wpAny_Dict_empty ⟨.ref s.heap.objs.size, _, I.laid (a := s.heap.objs.size) (o := dnO X.w s.heap.objs.size []) (t' := s.toks) (fun _ _ q => Heap.get?_push_of_some _ q) (Nat.le_refl _) (dn_empty s.heap I.big), rfl, h _ (I.hok.fresh (Nat.le_refl _))⟩⟩
theorem qe_newN : QE X W (.Dict [] [] pos) eNewN := pe_imp pe_dnewN fun g H Q q => by
  obtain ⟨L0, io0, H0, L, io, e, S, fr, q⟩ := q
  intro p hp
  have np : p ∉ io := fun z => fr.st.dom p (fr.st.sub p z) hp
  have s1 : Stp L io H (Ly L p) (io ++ [p]) (upd H p (dnO X.w p [])) := by
    have s0 := Stp.newV (L := L) (io := io) (o := dnO X.w p []) hp
    refine ⟨⟨[p], rfl⟩, fun x hx => ?_, s0.new, s0.keep, s0.up⟩
    rcases List.mem_append.mp hx with z | z
    · exact .inl z
    · simp at z; subst z; exact .inr hp
  have sr1 : SR X.kw (Ly L p) (io ++ [p]) (upd H p (dnO X.w p [])) (S ++ [.dcn []]) := by
    have sr0 := fr.st.newV (o := dnO X.w p []) hp
    have on : ∀ v d, VR X.kw (Ly L p) io (upd H p (dnO X.w p [])) v d → VR X.kw (Ly L p) (io ++ [p]) (upd H p (dnO X.w p [])) v d := fun v d r => VR.on (fun _ _ h => io_keep h) (fun a o e n => ⟨e, n⟩) r
    refine ⟨by rw [List.length_append, List.length_append, sr0.len]; rfl, ?_, fun a h => ?_, sr0.dom, fun k a o h3 h4 => ?_⟩
    · rw [List.nodup_append]
      exact ⟨sr0.nd, List.pairwise_singleton _ p, fun x hx y hy => by simp at hy; subst hy; exact fun z => np (z ▸ hx)⟩
    · rcases List.mem_append.mp h with z | z
      · exact sr0.sub a z
      · simp at z; subst z; exact .inr rfl
    · rcases Nat.lt_or_ge k io.length with hlt | hge
      · rw [List.getElem?_append_left hlt] at h3
        rw [List.getElem?_append_left (by rw [← sr0.len]; exact hlt)] at h4
        exact (sr0.obj k a o h3 h4).mono (fun _ e => e) on
      · have hk : k = io.length := by
          have := (List.getElem?_eq_some_iff.mp h3).1
          rw [List.length_append, List.length_singleton] at this; omega
        subst hk
        rw [List.getElem?_append_right (Nat.le_refl _)] at h3
        rw [sr0.len, List.getElem?_append_right (Nat.le_refl _)] at h4
        simp at h3 h4
        subst h3 h4
        exact ⟨List.mem_append_right _ (List.mem_singleton.mpr rfl), [], upd_same, .nil⟩
  exact q _ _ (Ly L p) (io ++ [p]) s1 sr1 (.hdl (by rw [← fr.st.len]; simp))
def tNDef (td ty tx : TE) : TE := fun σ H Q => td σ H fun x H1 => ∃ a es1, x = .ref a ∧ DnG X.K X.w H1 a es1 ∧ ty σ H1 fun y H2 => tx σ H2 fun z H3 => ∃ es b k, y = .ref b ∧ DnG X.K X.w H3 a es ∧ KyG X.K H3 b k ∧ es.length < sizeLine ∧
  (∀ v, atE es k = some v → Q v H3) ∧ (atE es k = none → Q z (upd H3 a (dnO X.w a (putE es k b z))))
theorem n_type2 {pins : List (Addr × Obj)} {σ : L2.St} {H : Hp} {s : Shared} {a : Addr} {es : List (NestedKey × Addr × V)} (I : Inv X pins σ H s) (g : DnG X.K X.w H a es) : ∀ b, Value.ref a = .ref b → ∃ ob, s.heap.get? b = some ob ∧ ob.dict = none := fun b e => by
  injection e with e; subst e
  obtain ⟨_, _, xs, _, o, _, _, ho, hc, _⟩ := dn_of I g
  exact ⟨o, ho, hc.2.1⟩
theorem pe_ndef {e f : Expr} {apos cpos : Pos} {tx : TE} (hu : X.A.units + 16 < cLine) (ho : PE X o td) (he : PE X e ty) (hf : PE X f tx) (m : M2 X o "setdefault" apos e f cpos) : PE X (.Call (.Attribute o "setdefault" apos) [e, f] [] cpos) (tNDef (X := X) td ty tx) := by
  refine ⟨fun pins s σ H Q I h => ?_⟩
  refine wpAny_Call_method m.base m.few m.line PySem.F.plainAttrs_dict PySem.F.slot_dict_setdefault PySem.F.type_dict_setdefault (thn (ho.run pins s σ H _ I h) fun u s1 ⟨x, H1, I1, rx, a, es1, ex, d, q1⟩ => ?_)
  subst ex
  obtain rfl : u = Value.ref a := rx
  refine ⟨n_type I1 d, n_type2 I1 d, ?_⟩
  rw [m.trees]
  refine Calls.callWith_builtin rfl (Calls.evalArgs_plain (Calls.spliced_cons (thn (he.run pins s1 σ H1 _ I1 q1) fun iv s2 ⟨y, H2, I2, ry, q2⟩ =>
    Calls.spliced_cons (thn (hf.run pins s2 σ H2 _ I2 q2) fun fv s3 ⟨z, H3, I3, rz, es, b, k, ey, g, gk, hl, q3, q4⟩ => Calls.spliced_nil ?_))))
  subst ey
  obtain rfl : iv = Value.ref b := ry
  exact n_default hu I3 g gk hl rz (fun v' hv w' s4 I4 r4 => ⟨v', H3, I4, r4, q3 v' hv⟩) fun hn s4 I4 => ⟨z, _, I4, rz, q4 hn⟩
def kNDef2 (d k x : Dv) (S : Sto) : Res Dv := match d with
  | .hdl j => (match S[j]? with
    | some (.dcn l) => (match nkT k with
      | some q => if l.length < sizeLine then (match lookN l q with
        | some v => .ok v S
        | none => .ok x (S.set j (.dcn (putN l k q x)))) else .no
      | none => .no)
    | _ => .no)
  | _ => .no
def kNDef1 (fk fx : DE) (e : Env) (d : Dv) (S : Sto) : Res Dv := if (nAt S d).isSome = true then bnd (fk e S) (fun k S2 => bnd (fx e S2) fun x S3 => kNDef2 d k x S3) else .no
def eNDef (fd fk fx : DE) : DE := fun e S => bnd (fd e S) (kNDef1 fk fx e)
theorem qe_ndef {e f : Expr} {apos cpos : Pos} {fk fx : DE} (hr : Room kk X.A) (ho : QE X W o fo) (hk : QE X W e fk) (hx : QE X W f fx) (m : M2 X o "setdefault" apos e f cpos := by exact ⟨rfl, rfl, rfl, rfl⟩) : QE X W (.Call (.Attribute o "setdefault" apos) [e, f] [] cpos) (eNDef fo fk fx) :=
  pe_imp (pe_ndef (hu16 hr) ho hk hx m) fun g H Q q => by
  refine Rdg.bind (R := VR X.kw) (k := kNDef1 fk fx) q fun L0 io0 H0 L io H1 e S d v fr rv q => ?_
  unfold kNDef1 at q
  split at q
  · rename_i hs
    obtain ⟨l, hl⟩ := Option.isSome_iff_exists.mp hs
    obtain ⟨a, es1, j, rfl, rfl, hj, hS, g1, t1⟩ := nAt_ok fr.st rv hl
    refine ⟨a, es1, rfl, g1, ?_⟩
    refine Fin.bind (R := VR X.kw) (k := fun k S2 => bnd (fx e S2) fun x S3 => kNDef2 (.hdl j) k x S3) fr q fun L2 io2 H2 S2 k y s2 fr2 rk q => ?_
    refine Fin.bind (R := VR X.kw) (k := fun x S3 => kNDef2 (.hdl j) k x S3) fr2 q fun L3 io3 H3 S3 x z s3 fr3 rx q => ?_
    have rv3 := (rv.step s2 fr.st.sub).step s3 fr2.st.sub
    have rk3 := rk.step s3 fr2.st.sub
    unfold kNDef2 at q
    simp only at q
    cases hS3 : S3[j]? with
    | none => rw [hS3] at q; exact q.elim
    | some ob =>
      cases ob with
      | dcn l3 =>
        rw [hS3] at q
        simp only at q
        cases hq : nkT k with
        | none => rw [hq] at q; exact q.elim
        | some kq =>
          rw [hq] at q
          simp only at q
          split at q
          · rename_i hlen
            obtain ⟨a3, es, j', ea, ej, hk3, _, g3, t3⟩ := nAt_ok fr3.st rv3 (show nAt S3 (.hdl j) = some l3 by simp [nAt, hS3])
            cases ea
            cases ej
            obtain ⟨b', rfl, n1, n2⟩ := vr_nkT rk3 hq
            have hat := en_at kq t3
            refine ⟨es, b', kq, rfl, g3, ⟨n1, n2⟩, by rw [en_len t3]; exact hlen, fun v hv => ?_, fun hn => ?_⟩
            · have hs : (lookN l3 kq).isSome = true := by rw [← hat.1, hv]; rfl
              obtain ⟨d, hd⟩ := Option.isSome_iff_exists.mp hs
              rw [hd] at q
              obtain ⟨v2, e1, e2⟩ := hat.2 d hd
              rw [hv] at e1
              cases e1
              exact q.ok1 fr3.st e2
            · have hs : (lookN l3 kq).isSome = false := by rw [← hat.1, hn]; rfl
              have hd : lookN l3 kq = none := Option.isNone_iff_eq_none.mp (by simpa using hs)
              rw [hd] at q
              have ma : a ∈ io3 := List.mem_of_getElem? hk3
              exact q _ _ L3 io3 (Stp.mutH ma) (fr3.st.putN hk3 t3 rk3 hq rx) (rx.mut (fr3.st.sub a ma))
          · exact q.elim
      | _ => rw [hS3] at q; exact q.elim
  · exact q.elim
end
end DL
namespace DL
open PySem PySem.Spec PyProof.Rows L2
def rLenSI (w : World) : List V → Hp → VK → Prop := fun vs H Q => ∃ (a : Addr) (S : Int → Bool) (n : Nat), vs = [V.ref a] ∧ H a = some (SetO w a S n) ∧ ∀ (m : Nat) (ks : List Int), ks.Nodup → (∀ x, S x = true ↔ x ∈ ks) → ks.length = m → Q (.int m) H
theorem cr_lenSI {X : Cx} : CallR X (.builtin "len") (rLenSI X.w) := by
  intro pins s σ H xs us Q I r h
  obtain ⟨a, S, n, rfl, ha, q⟩ := h
  have R : SetR X.w s.heap a S n := setO_get I ha
  rw [Vals.ref1 r]
  obtain ⟨o, es, ep, t, ho, hex, hd, g, nd, hm, hb, hf, hn, hr, hl⟩ := R
  have hlt : (es.size : Int) < 2 ^ 63 := by
    have : es.size < 4096 := hb
    omega
  refine call_len_set ho hex hd hf hlt ⟨.int es.size, H, I.tok _, ⟨_, rfl⟩, ?_⟩
  exact q es.size (es.toList.map keyOf) nd hm (by rw [List.length_map]; exact Array.length_toList)
def lenSetIK (l : List Dv) (S : Sto) : Res Dv := match l with
  | [d] => (match (asL S d).bind intsD with
    | some ws => if ws.length ≤ 4000 then .ok (.int (TI.srtI ws).length) S else .no
    | none => .no)
  | _ => .no
def eLenSetI (fa : DA) : DE := fun e S => bnd (fa e S) lenSetIK
theorem ints_len_eq {l1 l2 : List Int} (h1 : l1.Nodup) (h2 : l2.Nodup) (h : ∀ x, x ∈ l1 ↔ x ∈ l2) : l1.length = l2.length := ((List.perm_ext_iff_of_nodup h1 h2).mpr h).length_eq
theorem qe_lenSetI {X : Cx} {W : WX} {p p2 pos pos2 : Pos} {a : Expr} {fa : DA} (hm : X.mg "len" = none) (hm2 : X.mg "set" = none) (ha : QXs X W [a] fa) (hc : X.calm = true := by rfl) (hg : Gl X "len" := by rfl) (hg2 : Gl X "set" := by rfl)
    (he : starEach [a] X.env = (false, eval a X.env) :: starEach [] X.env := by rfl)
    (he2 : starEach [Expr.Call (.Name "set" p2) [a] [] pos2] X.env = (false, eval (.Call (.Name "set" p2) [a] [] pos2) X.env) :: starEach [] X.env := by rfl) :
    QE X W (.Call (.Name "len" p) [.Call (.Name "set" p2) [a] [] pos2] [] pos) (eLenSetI fa) :=
  pe_imp (pe_callB cr_lenSI hg hm (by decide +kernel) (pa_cons (pe_callTy (TI.cr_setIL hc) hg2 hm2 (by decide +kernel) ha (by decide) (by decide) he (by rfl)) pa_nil he2) (by decide) (by decide) he2 (by rfl)) fun g H Q q => by
  refine Rdg.bind (R := VXs X.kw) (k := fun _ => lenSetIK) q fun L0 io0 H0 L1 io1 H1 e S1 l vs fr1 rvs q => ?_
  unfold lenSetIK at q
  split at q
  · rename_i d
    cases h : (asL S1 d).bind intsD with
    | none => rw [h] at q; exact q.elim
    | some ws =>
      rw [h] at q
      simp only at q
      split at q
      · rename_i hl
        cases rvs with
        | cons r t =>
          cases t
          cases h1 : asL S1 d with
          | none => rw [h1] at h; cases h
          | some m =>
            rw [h1] at h
            obtain ⟨a, xs, rfl, hs, t⟩ := asL_x fr1.st r h1
            have hx := intsD_ok t h
            subst hx
            refine ⟨a, ws, rfl, hs, by unfold scanBound; omega, fun b c hcl hb => ?_⟩
            refine ⟨b, _, c, rfl, upd_same, fun m ks h2 h3 h4 => ?_⟩
            have hlen : ks.length = (TI.srtI ws).length := ints_len_eq h2 ((TI.pw_srtI ws).imp fun h => by omega) fun x => by rw [TI.mem_srtI, ← h3]; simp
            have st2 := fr1.st.alloc (o := SetO X.w b (fun j => decide (j ∈ ws)) c) hb
            rw [← h4, hlen]
            exact q _ _ L1 io1 (Stp.alloc hb) st2 (.int _)
      · exact q.elim
  · exact q.elim
def kKDef2 (d k x : Dv) (S : Sto) : Res Dv := match d with
  | .hdl j => (match S[j]? with
    | some (.dct l) => (match keyD k with
      | some q => if l.length < sizeLine then (match valD l q with
        | some v => .ok v S
        | none => .ok x (S.set j (.dct (putD l q x)))) else .no
      | none => .no)
    | _ => .no)
  | _ => .no
def kAt (S : Sto) (d : Dv) : Bool := match d with
  | .hdl j => (match S[j]? with
    | some (.dct _) => true
    | _ => false)
  | _ => false
def kKDef1 (fk fx : DE) (e : Env) (d : Dv) (S : Sto) : Res Dv := if kAt S d = true then bnd (fk e S) (fun k S2 => bnd (fx e S2) fun x S3 => kKDef2 d k x S3) else .no
def eKDef (fd fk fx : DE) : DE := fun e S => bnd (fd e S) (kKDef1 fk fx e)
section
variable {X : Cx} {W : WX} {kk : Nat} {o : Expr} {fo : DE}
theorem kAt_ok {K : Kw} {L : Addr → Prop} {io : List Addr} {H : Hp} {S : Sto} (sr : SR K L io H S) {v : V} {d : Dv} (r : VR K L io H v d) (h : kAt S d = true) : ∃ a j kvs l, v = .ref a ∧ d = .hdl j ∧ io[j]? = some a ∧ S[j]? = some (.dct l) ∧ H a = some (.dK kvs) ∧ PairR (VR K L io H) kvs l := by
  cases d with
  | hdl j =>
    unfold kAt at h
    simp only at h
    split at h
    · rename_i l hS
      cases r with
      | hdl hk =>
        obtain ⟨kvs, e, t⟩ := sr.obj j _ _ hk hS
        exact ⟨_, j, kvs, l, rfl, rfl, hk, hS, e, t⟩
    · cases h
  | _ => cases h
theorem qe_kdef {e f : Expr} {apos cpos : Pos} {fk fx : DE} (ho : QE X W o fo) (hk : QE X W e fk) (hx : QE X W f fx) (m : M2 X o "setdefault" apos e f cpos := by exact ⟨rfl, rfl, rfl, rfl⟩) : QE X W (.Call (.Attribute o "setdefault" apos) [e, f] [] cpos) (eKDef fo fk fx) :=
  pe_imp (pe_dsetd ho hk hx m) fun g H Q q => by
  refine Rdg.bind (R := VR X.kw) (k := kKDef1 fk fx) q fun L0 io0 H0 L io H1 e S d v fr rv q => ?_
  unfold kKDef1 at q
  split at q
  · rename_i hs
    obtain ⟨a, j, kvs1, l1, rfl, rfl, hj, hS, g1, t1⟩ := kAt_ok fr.st rv hs
    refine ⟨a, rfl, .inl ⟨kvs1, .inl g1⟩, ?_⟩
    refine Fin.bind (R := VR X.kw) (k := fun k S2 => bnd (fx e S2) fun x S3 => kKDef2 (.hdl j) k x S3) fr q fun L2 io2 H2 S2 k y s2 fr2 rk q => ?_
    refine Fin.bind (R := VR X.kw) (k := fun x S3 => kKDef2 (.hdl j) k x S3) fr2 q fun L3 io3 H3 S3 x z s3 fr3 rx q => ?_
    have rv3 := (rv.step s2 fr.st.sub).step s3 fr2.st.sub
    have rk3 := rk.step s3 fr2.st.sub
    unfold kKDef2 at q
    simp only at q
    cases hS3 : S3[j]? with
    | none => rw [hS3] at q; exact q.elim
    | some ob =>
      cases ob with
      | dct l3 =>
        rw [hS3] at q
        simp only at q
        cases hq : keyD k with
        | none => rw [hq] at q; exact q.elim
        | some kq =>
          rw [hq] at q
          simp only at q
          split at q
          · rename_i hlen
            obtain ⟨a3, j', kvs, l', ea, ej, hk3, hS4, g3, t3⟩ := kAt_ok fr3.st rv3 (show kAt S3 (.hdl j) = true by simp [kAt, hS3])
            cases ea
            cases ej
            rw [hS3] at hS4
            cases hS4
            obtain rfl := keyD_ok rk3 hq
            have ma : a ∈ io3 := List.mem_of_getElem? hk3
            refine ⟨kvs, kq, g3, rfl, by rw [PairR.len t3]; exact hlen, fun v hv => ?_, fun hn => ?_⟩
            · cases hd : valD l3 kq with
              | none => obtain h := (t3.val kq).2 hd; rw [hv] at h; cases h
              | some d =>
                rw [hd] at q
                obtain ⟨v2, e1, e2⟩ := (t3.val kq).1 d hd
                rw [hv] at e1
                cases e1
                exact q.ok1 fr3.st e2
            · cases hd : valD l3 kq with
              | some d => obtain ⟨v2, e1, e2⟩ := (t3.val kq).1 d hd; rw [hn] at e1; cases e1
              | none =>
                rw [hd] at q
                exact q _ _ L3 io3 (Stp.mutH ma) (fr3.st.setH hk3 ⟨_, upd_same, (PairR.put t3 rx).mono fun v d r => r.mut (fr3.st.sub a ma)⟩) (rx.mut (fr3.st.sub a ma))
          · exact q.elim
      | _ => rw [hS3] at q; exact q.elim
  · exact q.elim
end
theorem bounds_any (lo hi : Option Int) (n : Nat) : sliceBounds lo hi none n = (((HT.sIx n 0 lo : Nat) : Int), ((HT.sIx n n hi : Nat) : Int), 1) := by
  unfold sliceBounds
  simp only [Option.getD_none, show (1 : Int) > 0 by decide, if_true]
  have cl : ∀ (v : Int) (d : Nat), max 0 (min (if v < 0 then v + (n : Int) else v) (n : Int)) = ((HT.sIx n d (some v) : Nat) : Int) := fun v d => by
    rw [← HT.clip_eq v n d]
    by_cases hv : v < 0
    · simp only [if_pos hv]; omega
    · simp only [if_neg hv]; omega
  refine Prod.ext ?_ (Prod.ext ?_ rfl)
  · cases lo with
    | none => rfl
    | some v => exact cl v 0
  · cases hi with
    | none => rfl
    | some v => exact cl v n
section
variable {prog : Program} {w : World} {A : Around} {E : Value → Shared → Prop} {s : Shared}
theorem set_cut {a b c : Addr} {xs ys : Array Value} {n m : Nat} {u v : Value} {lo hi : Option Int} {Q : Unit → Shared → Prop}
    (e1 : s.heap.get? a = some { cls := .type "list", data := .seq xs n }) (e2 : s.heap.get? b = some { cls := .type "list", data := .seq ys m }) (ne : a ≠ b) (sl : s.heap.IsSliceOf c u v .none) (p1 : IsPart u lo) (p2 : IsPart v hi)
    (le : HT.sIx xs.size 0 lo ≤ HT.sIx xs.size xs.size hi) (le2 : HT.sIx xs.size xs.size hi ≤ xs.size) (sz : xs.size + ys.size ≤ sizeLine)
    (q : Q () { s with heap := s.heap.update a (Obj.mapSeq fun xs' => xs'.extract 0 (HT.sIx xs.size 0 lo) ++ ys ++ xs'.extract (HT.sIx xs.size xs.size hi) xs'.size) }) : wpAny (model prog w) A (setItem (.ref a) (.ref c) (.ref b)) Q E s := by
  have i1 := PySem.IsL.isList e1
  have i2 := PySem.IsL.isList e2
  obtain ⟨os, ho, hc, hd⟩ := id sl
  have tc : s.TypeIs (.ref c) "slice" := ⟨os, ho, hc⟩
  have st : ¬ ((rawPart none == rawInt 0) = true) := Bool.false_ne_true
  have sm : Builtin.List.listSameRef (.ref a) (.ref b) = false := by unfold Builtin.List.listSameRef; exact beq_eq_false_iff_ne.mpr ne
  generalize eq1 : HT.sIx xs.size 0 lo = i at *
  generalize eq2 : HT.sIx xs.size xs.size hi = j at *
  have mx : (max (i : Int) (j : Int)).toNat = j := by omega
  have sz2 : ((fun xs : Array Value => xs.extract 0 i ++ ys ++ xs.extract j xs.size) xs).size ≤ sizeLine + 1 := by
    simp only [Array.size_append, Array.size_extract]; omega
  unfold setItem
  try with_reducible refine wpAny_holding ?_
  first | refine wpAny_bind (wpAny_pure ?_) | skip
  refine wpAny_bind (wpAny_sequenceKey i1.typeIs (by decide) (wpAny_bind (wpAny_callSpecial?_slot (name := Str.ofString "__setitem__") i1.typeIs PySem.F.slot_list_setitem (wpAny_call_entry PySem.F.slot_list_setitem i1.typeIs PySem.F.entry_list_setitem ?_ (PySem.F.args_list_setitem_3 _ _ _)))))
  show wpAny _ _ (Builtin.List.listSubscript? (.ref c) >>= _) _ _ s
  refine wpAny_bind ?_
  unfold Builtin.List.listSubscript?
  refine wpAny_bind (wpAny_specialOf tc slice_no_index ?_)
  simp only [Option.isNone_none, if_true]
  refine wpAny_pure (show wpAny _ _ (typeOf (.ref c) >>= _) _ _ s from wpAny_bind (wpAny_typeOf tc ?_))
  first
    | rw [if_neg (by decide)]
    | refine PySem.W.KFB.if_not (by decide) ?_
  rw [listSliceParts_eq]
  refine wpAny_bind (wpAny_bind (wpAny_field ho hd (x := .none) rfl (wpAny_bind (wpAny_listPart .none ?_))))
  rw [if_neg st]
  refine wpAny_bind (wpAny_field ho hd (x := u) rfl (wpAny_bind (wpAny_listPart p1 (wpAny_bind (wpAny_field ho hd (x := v) rfl (wpAny_bind (wpAny_listPart p2 (wpAny_pure ?_))))))))
  first
    | simp only [sm, Bool.false_eq_true, if_false]
    | refine PySem.W.KFB.if_not sm ?_
    | (dsimp only; rw [if_neg (by rw [sm]; exact Bool.false_ne_true)])
  refine wpAny_bind (m := Builtin.List.listAllItems (.ref b) "must assign iterable to extended slice") ?_
  unfold Builtin.List.listAllItems
  refine wpAny_bind (wpAny_typeOf i2.typeIs ?_)
  first
    | refine PySem.W.KFB.if_so (by decide) ?_
    | rw [if_pos (by decide)]
    | simp only [beq_self_eq_true, Bool.true_or, if_true]
  unfold Builtin.List.listItems
  refine wpAny_bind (wpAny_seqItems e2 rfl (wpAny_pure (wpAny_bind (wpAny_bind (wpAny_seqItems e1 rfl (wpAny_pure ?_))))))
  have be := bounds_any lo hi xs.size
  rw [eq1, eq2] at be
  refine wpAny_bind (wpAny_of_eq ((sliceIndices_raw lo hi none xs.size (by simp)).trans (congrArg (pure : Int × Int × Int → Sem (Int × Int × Int)) be)) ?_)
  show wpAny _ _ (if ((1 : Int) == 1) = true then _ else _) _ _ s
  rw [if_pos (by decide)]
  refine wpAny_bind (wpAny_rule ?_)
  first
    | simp only [notLongL sz, Bool.false_eq_true, if_false]
    | refine PySem.W.KFB.if_not (notLongL sz) ?_
  first | refine wpAny_bind (wpAny_pure ?_) | skip
  show wpAny _ _ (updateSeq a (fun xs => xs.extract 0 ((i : Int)).toNat ++ ys ++ xs.extract (max (i : Int) (j : Int)).toNat xs.size) >>= _) _ _ s
  rw [mx, Int.toNat_natCast]
  refine wpAny_bind (wpAny_updateSeq (hz := Nat.le_trans (Nat.le_add_right _ _) sz) (_hz' := sz2) e1 rfl ?_)
  refine wpAny_bind (wpAny_letGo ?_)
  first
    | exact wpAny_bind (wpAny_pure (wpAny_pure ⟨.none, rfl, wpAny_pure q⟩))
    | exact wpAny_pure ⟨.none, rfl, wpAny_pure q⟩
end
def sCutT (to tv : TE) (tl th : TO) : TS := fun D σ H => tv σ H fun v H1 => to σ H1 fun x H2 => tl σ H2 fun l H3 => th σ H3 fun u H4 => ∃ (a b : Addr) (xs ys : List V), v = .ref b ∧ x = .ref a ∧ H4 a = some (.lst xs) ∧ H4 b = some (.lst ys) ∧ a ≠ b ∧
  HT.sIx xs.length 0 l ≤ HT.sIx xs.length xs.length u ∧ HT.sIx xs.length xs.length u ≤ xs.length ∧ xs.length + ys.length ≤ sizeLine ∧ D.nx σ (upd H4 a (.lst (xs.take (HT.sIx xs.length 0 l) ++ ys ++ xs.drop (HT.sIx xs.length xs.length u))))
section
variable {X : Cx} {W : WX} {o v : Expr} {lo hi : Option Expr} {to tv : TE} {tl th : TO} {pos pos' p2 : Pos} {fo fv : DE} {fl fh : DO}
theorem ps_cut (ho : PE X o to) (hl : PO X lo tl) (hh : PO X hi th) (hv : PE X v tv) (hs : swapsWith v (some (.Subscript o (.Slice lo hi none p2) pos')) pos.line X.env = pure false) : PS X (.Assign [.Subscript o (.Slice lo hi none p2) pos'] v pos) (sCutT to tv tl th) := by
  refine ⟨fun pins s σ H D I h => ?_⟩
  refine wpAny_Assign_Subscript (thn (hv.run pins s σ H _ I h) fun r s1 ⟨v, H1, I1, rv, q1⟩ => thn (ho.run pins s1 σ H1 _ I1 q1) fun ov s2 ⟨x, H2, I2, rx, q2⟩ => wpAny_Slice (thn (hl.run pins s2 σ H2 _ I2 q2) fun vl s3 ⟨l, H3, I3, pl, q3⟩ => thn (hh.run pins s3 σ H3 _ I3 q3) fun vu s4 ⟨u, H4, I4, pu, q4⟩ => ?_)) hs
  rw [evalPart_none]
  refine wpAny_pure ?_
  obtain ⟨a, b, xs, ys, rfl, rfl, ha, hb, ne, le, le2, sz, q⟩ := q4
  obtain rfl : r = Value.ref b := rv
  obtain rfl : ov = Value.ref a := rx
  have I5 : Inv X pins σ H4 { s4 with heap := s4.heap.push { cls := .type "slice", data := .fields #[vl, vu, .none] } } := I4.kept (t' := s4.toks) fun b ob q => Heap.get?_push_of_some _ q
  obtain ⟨z, its, n, rr, hlen, e⟩ := I5.lstM ha
  obtain ⟨z2, its2, n2, r2, hlen2, e2⟩ := I5.lstM hb
  have k1 : its.toArray.size = xs.length := by rw [List.size_toArray]; exact hlen.symm
  refine set_cut e e2 ne (Heap.IsSliceOf.new ..) pl pu (by rw [k1]; exact le) (by rw [k1]; exact le2) (by rw [k1, List.size_toArray, ← hlen2]; exact sz) ?_
  rw [k1]
  refine ⟨σ, _, I5.lset (its' := its.take (HT.sIx xs.length 0 l) ++ its2 ++ its.drop (HT.sIx xs.length xs.length u)) (t' := s4.toks) ha e (splice_eq its its2 _ _) (Vals.append (Vals.append (rr.take _) r2) (rr.drop _)) ?_, q⟩
  rw [List.length_append, List.length_append, List.length_take, List.length_drop]
  omega
def cutPut (S : Sto) (o v : Dv) (l u : Option Int) : Option Sto := match o, v with
  | .hdl k, .lst m => (match S[k]? with
    | some (.lst xs) => if HT.sIx xs.length 0 l ≤ HT.sIx xs.length xs.length u ∧ HT.sIx xs.length xs.length u ≤ xs.length ∧ xs.length + m.length ≤ sizeLine then some (S.set k (.lst (xs.take (HT.sIx xs.length 0 l) ++ m ++ xs.drop (HT.sIx xs.length xs.length u)))) else none
    | _ => none)
  | _, _ => none
def kCutP (e : Env) (o v : Dv) (l u : Option Int) (S : Sto) : Out := match cutPut S o v l u with
  | some S5 => .nx e S5
  | none => .no
def sCutP (fo fv : DE) (fl fh : DO) : DS := sBind fv fun e v S1 => sBind fo (fun e o S2 => sBind fl (fun e l S3 => sBind fh (fun e u S4 => kCutP e o v l u S4) e S3) e S2) e S1
theorem qs_cutP (ho : QE X W o fo) (hl : QO X W lo fl) (hh : QO X W hi fh) (hv : QE X W v fv) (hs : swapsWith v (some (.Subscript o (.Slice lo hi none p2) pos')) pos.line X.env = pure false := by rfl) :
    QS X W (.Assign [.Subscript o (.Slice lo hi none p2) pos'] v pos) (sCutP fo fv fl fh) := ps_imp (ps_cut ho hl hh hv hs) fun D g H h => by
  refine rds_bind (R := VR X.kw) (k := fun e v S1 => sBind fo (fun e o S2 => sBind fl (fun e l S3 => sBind fh (fun e u S4 => kCutP e o v l u S4) e S3) e S2) e S1) h fun L0 io0 H0 L io H1 e S dv vv fr rv q => ?_
  refine outR.bind (R := VR X.kw) (k := fun e o S2 => sBind fl (fun e l S3 => sBind fh (fun e u S4 => kCutP e o dv l u S4) e S3) e S2) fr q fun L2 io2 H2 S2 od ov s2 fr2 ro q2 => ?_
  refine outR.bind (R := fun _ _ _ (v : Option Int) d => v = d) (k := fun e l S3 => sBind fh (fun e u S4 => kCutP e od dv l u S4) e S3) fr2 q2 fun L3 io3 H3 S3 l l' s3 fr3 rl q3 => ?_
  refine outR.bind (R := fun _ _ _ (v : Option Int) d => v = d) (k := fun e u S4 => kCutP e od dv l u S4) fr3 q3 fun L4 io4 H4 S4 u u' s4 fr4 ru q4 => ?_
  subst rl ru
  have ro4 := (ro.step s3 fr2.st.sub).step s4 fr3.st.sub
  have rv4 := ((rv.step s2 fr.st.sub).step s3 fr2.st.sub).step s4 fr3.st.sub
  unfold kCutP at q4
  cases hn : cutPut S4 od dv l' u' with
  | none => rw [hn] at q4; exact q4.elim
  | some S5 =>
    rw [hn] at q4
    unfold cutPut at hn
    split at hn
    · rename_i k m
      split at hn
      · rename_i xs hS
        split at hn
        · rename_i hc
          cases hn
          cases ro4 with
          | hdl hk =>
            rename_i p
            cases rv4 with
            | lst nl hb t =>
              rename_i b ys
              obtain ⟨xv, e1, r1⟩ := fr4.st.obj k p _ hk hS
              have ma : p ∈ io4 := List.mem_of_getElem? hk
              have ne : p ≠ b := fun z => nl (z ▸ fr4.st.sub p ma)
              have k1 := r1.len
              have k2 := t.len
              refine ⟨p, b, xv, ys, rfl, rfl, e1, hb, ne, by rw [k1]; exact hc.1, by rw [k1]; exact hc.2.1, by rw [k1, k2]; exact hc.2.2, ?_⟩
              rw [k1]
              have s5 : Stp L4 io4 H4 L4 io4 (upd H4 p (.lst (xv.take (HT.sIx xs.length 0 l') ++ ys ++ xv.drop (HT.sIx xs.length xs.length u')))) := Stp.mutH ma
              exact q4 g _ L4 io4 (s5.stw fr4.st.sub) (fr4.step s5 (fr4.st.setH hk ⟨_, upd_same, (((r1.take _).app t).app (r1.drop _)).mut (fr4.st.sub p ma)⟩))
        · cases hn
      · cases hn
    · cases hn
end
end DL
namespace DL
open PySem PySem.Spec PyProof.Rows L2
def kTryO (sub : List (Str × Bool)) (f : DE) (els : DS) : Out → Out
  | .ex c fs e' S' => (match sub.lookup c with
    | some true => (match f e' S' with
      | .ok d S2 => .rt d S2
      | _ => .no)
    | some false => .ex c fs e' S'
    | none => .no)
  | .nx e' S' => els e' S'
  | o => o
def sTryO (sub : List (Str × Bool)) (f : DE) (body els : DS) : DS := fun e S => kTryO sub f els (body e S)
section
variable {X : Cx} {W : WX} {x : Str} {u : Value} {body els : List Stmt} {b : Expr} {np pos pos' rp : Pos} {fb fe : DS} {f : DE} {sub : List (Str × Bool)}
theorem qs_tryO (hc : Names X x u) (hx : ExT X.kw u sub) (tk : Takes X W) (ho : QSs X W els fe)
    (hb : ∀ (W' : WX) (pn : List (Addr × Obj)) (xe : Value → Shared → Prop), Takes (X.tr pn xe) W' → PassesOwn (model X.prog X.w) X.A X.env xe → QSs (X.tr pn xe) W' body fb)
    (hsu : ∀ (a : Addr) (oe : Obj) (pn : List (Addr × Obj)), QE (X.suite a ((a, oe) :: pn)) (fun _ _ _ _ => False) b f)
    (hs : X.stack = X.env :: X.outer := by rfl) (hf : X.env.frame = some X.env.locals := by rfl) :
    QS X W (.Try body [.ExceptHandler (some (.Name x np)) none [.Return (some b) rp] pos'] els [] pos) (sTryO sub f fb fe) := by
  refine ps_imp (ps_try_onlyE (tb := fun W' => rds X.kw W' fb) (ts := fun _ _ _ => fun D σ H => Rdg X.kw (fun _ _ _ _ => False) (VR X.kw) f σ H D.rt) ho hs hf hc tk hb (fun a oe cls d pn _ _ => pss_one (ps_ret (hsu a oe pn)))) fun D σ H q => ?_
  obtain ⟨L0, io0, H0, L, io, e, S, fr, q⟩ := q
  refine ⟨L0, io0, H0, L, io, e, S, fr, ?_⟩
  unfold sTryO kTryO at q
  cases hh : fb e S with
  | nx e' S' =>
    rw [hh] at q
    intro g' H' L' io' sw fr'
    exact ⟨L0, io0, H0, L', io', e', S', fr', outR.later q sw⟩
  | bk e' S' => rw [hh] at q; exact q
  | ct e' S' => rw [hh] at q; exact q
  | rt d S' => rw [hh] at q; exact q
  | no => rw [hh] at q; exact q
  | ex c fs e' S' =>
    rw [hh] at q
    simp only at q
    intro xa σ' H' L' io' sw fr' ex
    cases hl : sub.lookup c with
    | none => rw [hl] at q; exact q.elim
    | some b =>
      rw [hl] at q
      refine ⟨b, hx c b hl, fun hb1 a na => ?_, fun hb1 => ?_⟩
      · subst hb1
        simp only at q
        refine ⟨L0, io0, H0, L', io', e', S', fr', ?_⟩
        cases h2 : f e' S' with
        | ok d S2 =>
          rw [h2] at q
          exact fun v H2 L2' io2 s sr r => q v H2 L2' io2 sr (fr'.en.trans s fr'.sub0) r
        | ex c' fs' S2 => rw [h2] at q; exact q.elim
        | no => rw [h2] at q; exact q.elim
      · subst hb1
        exact q xa σ' H' L' io' sw fr' ex
end
section
variable (S S' : Sto) (e e' : Env) (d d1 d2 d3 : Dv) (l : List (Dv × Dv)) (c : Str) (fs : List (Str × Dv)) (k : Nat) (q : NestedKey) (f : DE) (fo fi fv fx : DE) (fl fh : DO) (fa : DA) (els body : DS) (sub : List (Str × Bool))
@[simp] theorem ev_tryO : sTryO sub f body els e S = kTryO sub f els (body e S) := rfl
@[simp] theorem kTryO_nx : kTryO sub f els (.nx e S) = els e S := rfl
@[simp] theorem kTryO_rt : kTryO sub f els (.rt d S) = .rt d S := rfl
theorem kTryO_ex (h1 : sub.lookup c = some true) (h3 : f e S = .ok d S') : kTryO sub f els (.ex c fs e S) = .rt d S' := by
  unfold kTryO; simp only [h1, h3]
@[simp] theorem ev_raise0 : sRaise0 c e S = .ex c [] e S := rfl
@[simp] theorem ev_newN : eNewN e S = .ok (.hdl S.length) (S ++ [.dcn []]) := rfl
theorem nAt_h (h : S[k]? = some (.dcn l)) : nAt S (.hdl k) = some l := by unfold nAt; simp only [h]
def qNP1 (fo fi : DE) (e : Env) (v : Dv) (S : Sto) : Out := kS (fun e o S2 => kS (fun e i S3 => kSet e (nputH S3 o i v)) e (fi e S2)) e (fo e S)
def qNP2 (fi : DE) (v : Dv) (e : Env) (o : Dv) (S : Sto) : Out := kS (fun e i S3 => kSet e (nputH S3 o i v)) e (fi e S)
def qNP3 (v o : Dv) (e : Env) (i : Dv) (S : Sto) : Out := kSet e (nputH S o i v)
@[simp] theorem ev_nput : sNPut fo fi fv e S = kS (qNP1 fo fi) e (fv e S) := by
  unfold sNPut; rw [ev_sbind]; congr 1
@[simp] theorem ev_np1 : qNP1 fo fi e d S = kS (qNP2 fi d) e (fo e S) := rfl
@[simp] theorem ev_np2 : qNP2 fi d e d1 S = kS (qNP3 d d1) e (fi e S) := rfl
@[simp] theorem ev_np3 : qNP3 d d1 e d2 S = kSet e (nputH S d1 d2 d) := rfl
/-- setdefault -/
def kND2 (fx : DE) (e : Env) (d k : Dv) (S : Sto) : Res Dv := bnd (fx e S) fun x S3 => kNDef2 d k x S3
def kND3 (d k : Dv) (x : Dv) (S : Sto) : Res Dv := kNDef2 d k x S
@[simp] theorem ev_ndef : eNDef fo fi fx e S = bnd (fo e S) (kNDef1 fi fx e) := rfl
theorem kNDef1_ok (h : S[k]? = some (.dcn l)) : kNDef1 fi fx e (.hdl k) S = bnd (fi e S) (kND2 fx e (.hdl k)) := by
  unfold kNDef1; rw [nAt_h S l k h]; rfl
@[simp] theorem ev_nd2 : kND2 fx e d d1 S = bnd (fx e S) (kND3 d d1) := rfl
theorem kND3_ok (h : S[k]? = some (.dcn l)) (hk : nkT d1 = some q) (hl : l.length < 16777216) : kND3 (.hdl k) d1 d2 S = match lookN l q with
    | some v => .ok v S
    | none => .ok d2 (S.set k (.dcn (putN l d1 q d2))) := by
  have hs : l.length < sizeLine := by rw [sizeLine_eq]; exact hl
  unfold kND3 kNDef2; simp only [h, hk, if_pos hs]; all_goals (cases lookN l q <;> rfl)
def kKD2 (fx : DE) (e : Env) (d k : Dv) (S : Sto) : Res Dv := bnd (fx e S) fun x S3 => kKDef2 d k x S3
def kKD3 (d k : Dv) (x : Dv) (S : Sto) : Res Dv := kKDef2 d k x S
@[simp] theorem ev_kdef : eKDef fo fi fx e S = bnd (fo e S) (kKDef1 fi fx e) := rfl
theorem kKDef1_ok {m : List (Key × Dv)} (h : S[k]? = some (.dct m)) : kKDef1 fi fx e (.hdl k) S = bnd (fi e S) (kKD2 fx e (.hdl k)) := by
  unfold kKDef1 kAt; simp only [h]; rfl
@[simp] theorem ev_kd2 : kKD2 fx e d d1 S = bnd (fx e S) (kKD3 d d1) := rfl
theorem kKD3_ok {m : List (Key × Dv)} {y : Key} (h : S[k]? = some (.dct m)) (hk : keyD d1 = some y) (hl : m.length < 16777216) : kKD3 (.hdl k) d1 d2 S = match valD m y with
    | some v => .ok v S
    | none => .ok d2 (S.set k (.dct (putD m y d2))) := by
  have hs : m.length < sizeLine := by rw [sizeLine_eq]; exact hl
  unfold kKD3 kKDef2; simp only [h, hk, if_pos hs]; all_goals (cases valD m y <;> rfl)
/-- xs[i:j] = ys -/
def qCP1 (fo : DE) (fl fh : DO) (e : Env) (v : Dv) (S : Sto) : Out := sBind fo (fun e o S2 => sBind fl (fun e l S3 => sBind fh (fun e u S4 => kCutP e o v l u S4) e S3) e S2) e S
def qCP2 (fl fh : DO) (v : Dv) (e : Env) (o : Dv) (S : Sto) : Out := sBind fl (fun e l S3 => sBind fh (fun e u S4 => kCutP e o v l u S4) e S3) e S
def qCP3 (fh : DO) (v o : Dv) (e : Env) (l : Option Int) (S : Sto) : Out := sBind fh (fun e u S4 => kCutP e o v l u S4) e S
def qCP4 (v o : Dv) (l : Option Int) (e : Env) (u : Option Int) (S : Sto) : Out := kCutP e o v l u S
@[simp] theorem ev_cutP : sCutP fo fv fl fh e S = kS (qCP1 fo fl fh) e (fv e S) := ev_sbind ..
@[simp] theorem ev_cp1 : qCP1 fo fl fh e d S = kS (qCP2 fl fh d) e (fo e S) := ev_sbind ..
@[simp] theorem ev_cp2 : qCP2 fl fh d e d1 S = kS (qCP3 fh d d1) e (fl e S) := ev_sbind ..
@[simp] theorem ev_cp3 (lo : Option Int) : qCP3 fh d d1 e lo S = kS (qCP4 d d1 lo) e (fh e S) := ev_sbind ..
@[simp] theorem ev_cp4 (lo hi : Option Int) : qCP4 d d1 lo e hi S = kSet e (cutPut S d1 d lo hi) := by unfold qCP4 kCutP kSet; rfl
theorem cutPut_1 {xs m : List Dv} (h : S[k]? = some (.lst xs)) (hl : xs.length + m.length ≤ 16777216) : cutPut S (.hdl k) (.lst m) none (some 1) = some (S.set k (.lst (m ++ xs.drop 1))) := by
  have hs : xs.length + m.length ≤ sizeLine := by rw [sizeLine_eq]; exact hl
  have h1 : HT.sIx xs.length 0 none = 0 := rfl
  have h2 : HT.sIx xs.length xs.length (some 1) = min 1 xs.length := rfl
  unfold cutPut
  simp only [h, h1, h2]
  rw [if_pos ⟨Nat.zero_le _, Nat.min_le_right _ _, hs⟩]
  simp only [List.take_zero, List.nil_append, Option.some.injEq]
  congr 3
  rcases xs with _ | ⟨x, xs⟩
  · rfl
  · have : min 1 (x :: xs).length = 1 := by simp only [List.length_cons]; omega
    rw [this]
@[simp] theorem ev_lenSetI : eLenSetI fa e S = bnd (fa e S) lenSetIK := rfl
theorem lenSetIK_ok (ws : List Int) (h : ws.length ≤ 4000) : lenSetIK [.lst (ws.map Dv.int)] S = .ok (.int (TI.srtI ws).length) S := by
  unfold lenSetIK
  simp only [asL, Option.bind_some, intsD_map, if_pos h]
end
def emOk (K : PySem.W.Frag) (a : Addr) : Bool := match K.lookup a with
  | some ⟨.type "tuple", none, .seq its _, _⟩ => its.toList == []
  | _ => false
structure EmT (K : PySem.W.Frag) (a : Addr) : Prop where
  ok : emOk K a = true
theorem EmT.vr {K : Kw} {a : Addr} (h : EmT K a) (L : Addr → Prop) (io : List Addr) (H : Hp) : VR K L io H (.ref a) (.tup []) := by
  have h := h.ok
  unfold emOk at h
  split at h
  · rename_i its n sl e
    have hn : its.toList = [] := by
      cases h2 : its.toList with
      | nil => rfl
      | cons x l => rw [h2] at h; cases h
    have sz : its.size = 0 := by rw [← Array.length_toList, hn]; rfl
    refine .tupK ⟨fun H' => .inr ⟨_, its, n, e, rfl, rfl, by rw [sz]; exact Nat.zero_le _, by rw [hn]; exact .nil⟩, _, e, rfl, rfl⟩ .nil
  · cases h
def emB (f : Str × Option Str) (i : Nat) : Ft := .any fun K => emOk K (He.dflAt f i K)
theorem em_f {K : PySem.W.Frag} {f : Str × Option Str} {i : Nat} (h : (emB f i).ok K = true) : EmT K (He.dflAt f i K) := ⟨h⟩
def thawV (S : Sto) : Sl → Sl
  | .va d => (match thaw 30 S d with
    | some d' => .va d'
    | none => .no)
  | _ => .no
def thawE (S : Sto) (e : Env) : Env := e.map (thawV S)
def eLend (f : DE) : DE := fun e S => kLend S (f (thawE S e) [])
theorem fr_lend {K : Kw} {L0 L : Addr → Prop} {io0 io : List Addr} {H0 H : Hp} {g : L2.St} {e : Env} {S : Sto} (fr : FR K L0 io0 H0 L io H g e S) : FR K (Lm L H) [] H (Lm L H) [] H g (thawE S e) [] := by
  have at_ : ∀ i, (thawE S e)[i]? = (e[i]?).map (thawV S) := fun i => List.getElem?_map ..
  have nva : ∀ (i : Nat) (o : Ob), (thawE S e)[i]? ≠ some (.own o) := fun i o h => by
    rw [at_] at h
    cases h1 : e[i]? with
    | none => rw [h1] at h; cases h
    | some x =>
      rw [h1] at h
      cases x with
      | va d => simp only [Option.map_some, thawV] at h; split at h <;> cases h
      | _ => cases h
  have cases3 : ∀ i : Nat, (thawE S e)[i]? = none ∨ (∃ d, (thawE S e)[i]? = some (Sl.va d)) ∨ (thawE S e)[i]? = some Sl.no := fun i => by
    cases h : (thawE S e)[i]? with
    | none => exact .inl rfl
    | some x =>
      cases x with
      | va d => exact .inr (.inl ⟨d, rfl⟩)
      | own o => exact (nva i o h).elim
      | no => exact .inr (.inr rfl)
  refine ⟨sr_none fr.st, by rw [fr.len]; unfold thawE; rw [List.length_map], fun i d h => ?_, fun i o h => (nva i o h).elim, fun i j p ne h1 h2 h3 h4 h5 => ?_, Stp.refl .., (fun _ h => nomatch h), fun a h => fr.st.dom a h.1⟩
  · rw [at_] at h
    cases h1 : e[i]? with
    | none => rw [h1] at h; cases h
    | some x =>
      rw [h1] at h
      cases x with
      | va d0 =>
        simp only [Option.map_some, thawV] at h
        cases h2 : thaw 30 S d0 with
        | none => rw [h2] at h; cases h
        | some d' =>
          rw [h2] at h
          cases h
          obtain ⟨v, h3, h4⟩ := fr.va i d0 h1
          exact ⟨v, h3, thaw_ok fr.st 30 h4 h2⟩
      | _ => cases h
  · rcases cases3 i with z | ⟨d, z⟩ | z
    · have : g.length ≤ i := by
        rw [fr.len]
        have := List.getElem?_eq_none_iff.mp z
        unfold thawE at this
        rw [List.length_map] at this
        exact this
      rw [List.getElem?_eq_none_iff.mpr this] at h5
      cases h5
    · exact (h1 d z).elim
    · exact (h3 z).elim
theorem qe_lend {X : Cx} {W : WX} {a : Expr} {f : DE} (h : QE X W a f) : QE X W a (eLend f) := pe_imp h fun g H Q q => by
  obtain ⟨L0, io0, H0, L, io, e, S, fr, q⟩ := q
  exact ⟨_, [], H, Lm L H, [], thawE S e, [], fr_lend fr, lend_fin fr.st q⟩
theorem ev_lend (f : DE) (e : Env) (S : Sto) : eLend f e S = kLend S (f (thawE S e) []) := rfl
theorem kLend_ok {S S' : Sto} {d : Dv} (h : pureD d = true) : kLend S (.ok d S') = .ok d S := if_pos h
def gTL (gs : DGs) : DG := fun d e => match asT d with
  | some l => gs l e
  | none => (asF d).bind fun l => gs l e
theorem qg_tl {X : Cx} {ts : List Expr} {gds : DGs} {n : Nat} {vs : List Nat} {pos : Pos} {k : Nat} (hc : X.calm = true) (h : QGs X ts gds n vs) (hn : (assignEach ts X.env).length = n := by rfl) (hst : (assignEach ts X.env).findIdx? (·.1) = none := by rfl) : QG X (.Tuple ts k pos) (gTL gds) vs := by
  have c1 := (qg_tup (k := k) (pos := pos) hc h hn hst).canon
  have c2 := (qg_lst (k := k) (pos := pos) hc h hn hst).canon
  refine ⟨tgR X.kw (gTL gds) vs, ⟨fun pins s g H v u Q I r q => ?_⟩, tgR_ok⟩
  obtain ⟨L0, io0, H0, L, io, e, S, d, e', fr, rv, hd, q⟩ := q
  unfold gTL at hd
  cases h1 : asT d with
  | some l =>
    rw [h1] at hd
    exact c1.run pins s g H v u Q I r ⟨L0, io0, H0, L, io, e, S, d, e', fr, rv, by unfold gT; rw [h1]; exact hd, q⟩
  | none =>
    rw [h1] at hd
    exact c2.run pins s g H v u Q I r ⟨L0, io0, H0, L, io, e, S, d, e', fr, rv, hd, q⟩
@[simp] theorem ev_gTL_t (gs : DGs) (l : List Dv) (e : Env) : gTL gs (.tup l) e = gs l e := rfl
@[simp] theorem ev_gTL_l (gs : DGs) (l : List Dv) (e : Env) : gTL gs (.lst l) e = gs l e := rfl
theorem rd_newH {X : Cx} {W : WX} {f : DL} {g : L2.St} {H : Hp} {Q : VK} (q : rd X.kw W (eNew f) g H Q) : rdF X.kw W f g H Q := by
  obtain ⟨L0, io0, H0, L, io, e, S, fr, q⟩ := q
  refine ⟨L0, io0, H0, L, io, e, S, fr, ?_⟩
  have q : Fin X.kw W (VR X.kw) g L io H Q (bnd (f e S) fun l S' => .ok (.hdl S'.length) (S' ++ [.lst l])) := q
  cases hf : f e S with
  | no => rw [hf] at q; exact q
  | ex c fs S' => rw [hf] at q; exact q
  | ok l S' =>
    rw [hf] at q
    intro v H' L' io' s sr n
    obtain ⟨io2, s2, w2, sr2, r2⟩ := fr.setH s sr n
    exact q v H' L' io2 s2 sr2 r2
section
variable {X : Cx} {W : WX} {elt tg iter : Expr} {ifs : List Expr} {scope : Scope} {own : List (Str × Nat)} {pos spos py : Pos} {fi : DL} {gd : DG} {tt : DT} {te : DE} {y : Str}
theorem qs_asgLcH (hN' : X.N.Nodup) (i : Nat) (own : List (Str × Nat)) (hc : X.calm = true) (hN : X.N.Nodup) (hi : QI X W tg iter fi) (ok : BlkOk X.N X.env.scope scope own)
    (hg : ∀ (s : Shared) (H : Hp) (C : Addr) (cl : List (Str × Addr)) (fp : List Addr), QG (X.blk s H scope (compEnvC scope cl C X.env) fp) tg gd (own.map (·.2)))
    (ht : ∀ (s : Shared) (H : Hp) (C : Addr) (cl : List (Str × Addr)) (fp : List Addr), QTs (X.blk s H scope (compEnvC scope cl C X.env) fp) W0 ifs tt)
    (he : ∀ (s : Shared) (H : Hp) (C : Addr) (cl : List (Str × Addr)) (fp : List Addr), QE (X.blk s H scope (compEnvC scope cl C X.env) fp) W0 elt te)
    (hy : X.N[i]? = some y := by rfl) (hyl : X.env.scope.names.lookup y = some .local := by rfl)
    (hsw : swapsWith (.ListComp elt [⟨tg, iter, ifs, 0⟩] scope pos) (some (.Name y py)) spos.line X.env = pure true := by exact sw_true rfl rfl rfl (by decide +kernel)) (hs : ∀ x, foldedSetIterable iter X.env x = pure x := by intro _; rfl) :
    QS X W (.Assign [.Name y py] (.ListComp elt [⟨tg, iter, ifs, 0⟩] scope pos) spos) (sAsg i (eNew (fLc fi gd tt te (own.map (·.2))))) :=
  ps_imp (ps_setLc (g := tgR X.kw gd (own.map (·.2))) (tt := rdt X.kw W0 tt) (te := rd X.kw W0 te) hc hN hy hyl hsw hi ok (fun s H C cl fp => (hg s H C cl fp).canon) ht he hs) fun D g H h => by
    refine rd_lc tgR_ok (rd_newH ?_)
    exact rds_bind (R := VR X.kw) (k := fun e d S => .nx (e.set i (.va d)) S) h fun L0 io0 H0 L io H1 e S d v fr r q => q _ H1 L io (Stw.refl ..) (fr.setV i r)
end
end DL
namespace DL
open PySem PySem.Spec PyProof.Rows L2
def kLendB (S : Sto) : Res Bool → Res Bool
  | .ok b _ => .ok b S
  | .ex c fs _ => if pureDf fs = true then .ex c fs S else .no
  | .no => .no
@[simp] theorem kLendB_ok (S S' : Sto) (b : Bool) : kLendB S (.ok b S') = .ok b S := rfl
def lenKD (S : Sto) : List Dv → Option (Dv × Sto)
  | [.hdl k] => match S[k]? with
    | some (.dct l) => some (.int l.length, S)
    | _ => none
  | _ => none
theorem cas_lenK {K : Kw} : CaS K (fun xs H Q => ∃ a kvs, xs = [V.ref a] ∧ H a = some (.dK kvs) ∧ Q (.int kvs.length) H) lenKD := by
  intro L io H S xs l d S' Q sr rv e q
  unfold lenKD at e
  split at e
  · rename_i k
    split at e
    · rename_i m hS
      cases e
      cases rv with
      | cons r t =>
        cases t
        have r := r.vr rfl
        cases r with
        | hdl hk =>
          obtain ⟨kvs, e1, t⟩ := sr.obj k _ _ hk hS
          exact ⟨_, kvs, rfl, e1, by rw [PairR.len t]; exact q _ H L io (Stp.refl ..) sr (.int _)⟩
    · cases e
  · cases e
theorem lenKD_ok {S : Sto} {k : Nat} {m : List (Key × Dv)} (h : S[k]? = some (.dct m)) : lenKD S [.hdl k] = some (.int m.length, S) := by
  unfold lenKD; simp only [h]
end DL
namespace DL
open PySem L2
inductive Fn where
  | l_bag
  | l_take
  | l_mixed
  | Closure_init
  | Closure_not_all
  | Closure_root
  | Closure_merge
  | Closure_join
  | Closure_row
  | l_tell
  | l_made
  | Closure_copied
  | Closure_settle
  | Closure_differs
  | Closure_stands
  | Closure_same
  | l_copied
  | l_one
  | l_fact
  | Closure_model
  | l_model
  | Closure_facts
  | l_truth
  | l_alike
  | l_apart
  | l_renamed
  | law
def tbl : List (Str × Fn) := []
def dl_Closure_2 : List Dv := []
def xtab : List (Str × List Str) := [("Contradiction", [])]
def ext_Contradiction : List (Str × Bool) := [("Contradiction", true)]
def fb_l_bag (c : Fn → DF) : DS := (sRet (eNew (fLst (aCons (eC (.int 0)) (aCons (eC (.int 1234567891)) (aCons (eC (.int 0)) (aCons (eFrz (fLc (iSq (eCut (eVar 0) oNone (oSome (eC (.int 63))))) (gN 1) tTrue (eCB absD (aCons (eVar 1) aNil)) [1])) aNil)))))))
def g_l_bag (c : Fn → DF) : DF := runF 1 2 (fb_l_bag c)
def fb_l_take (c : Fn → DF) : DS := (sSeq (sIf (tVal (eBin eqE (eBin ixD (eVar 0) (eC (.int 0))) (eC (.int 0)))) (sSeq (sAsg 2 (eC (.int 0))) (sSeq (sIf (tVal (eBin (pu2 ltD) (eBin ixD (eVar 0) (eC (.int 2))) (eCB lenD (aCons (eBin ixD (eVar 0) (eC (.int 3))) aNil)))) (sAsg 2 (eBin ixD (eBin ixD (eVar 0) (eC (.int 3))) (eBin ixD (eVar 0) (eC (.int 2))))) sNil) (sSeq (sAugI addI (eVar 0) (eC (.int 2)) (eC (.int 1))) (sSeq (sIf (tVal (eBin (pu2 geD) (eVar 2) (eC (.int 1000000000000000000)))) (sSetI (eVar 0) (eC (.int 0)) (eVar 2)) sNil) (sSeq (sAsg 3 (eBin addD (eBin addD (eBin (pu2 mulD) (eBin ixD (eVar 0) (eC (.int 1))) (eC (.int 48271))) (eBin (pu2 modD) (eCB intD2 (aCons (eVar 2) aNil)) (eC (.int 2147483647)))) (eBin (pu2 mulD) (eC (.int 7919)) (eBin ixD (eVar 0) (eC (.int 2)))))) (sSetI (eVar 0) (eC (.int 1)) (eBin (pu2 modD) (eCB intD2 (aCons (eVar 3) aNil)) (eC (.int 2147483647))))))))) sNil) (sSeq (sIf (tVal (eBin (pu2 gtD) (eBin ixD (eVar 0) (eC (.int 0))) (eC (.int 0)))) (sSeq (sAsg 4 (eBin (pu2 modD) (eCB intD2 (aCons (eBin ixD (eVar 0) (eC (.int 0))) aNil)) (eVar 1))) (sSeq (sSetI (eVar 0) (eC (.int 0)) (eBin (pu2 fdivD) (eCB intD2 (aCons (eBin ixD (eVar 0) (eC (.int 0))) aNil)) (eVar 1))) (sRet (eVar 4)))) sNil) (sSeq (sAsg 5 (eBin (pu2 modD) (eCB intD2 (aCons (eBin (pu2 mulD) (eBin addD (eBin ixD (eVar 0) (eC (.int 1))) (eC (.int 1))) (eC (.int 39373))) aNil)) (eC (.int 1000000007)))) (sSeq (sAsg 6 (eBin (pu2 modD) (eCB intD2 (aCons (eBin (pu2 mulD) (eBin (pu2 modD) (eCB intD2 (aCons (eBin (pu2 mulD) (eVar 5) (eVar 5)) aNil)) (eC (.int 998244353))) (eC (.int 30011))) aNil)) (eC (.int 998244353)))) (sRet (eBin (pu2 modD) (eCB intD2 (aCons (eBin (pu2 fdivD) (eVar 6) (eC (.int 7))) aNil)) (eVar 1)))))))
def g_l_take (c : Fn → DF) : DF := runF 2 7 (fb_l_take c)
def fb_l_mixed_l0 (c : Fn → DF) : DS := (sOwnM insD 2 (aCons (eCall (c .l_take) (aCons (eVar 0) (aCons (eBin addD (eCB lenD (aCons (eAny 2) aNil)) (eC (.int 1))) aNil))) (aCons (eVar 3) aNil)))
def fb_l_mixed (c : Fn → DF) : DS := (sSeq (sOwnN 2 (nL (fLst aNil))) (sSeq (sFor (iSq (eVar 1)) (gN 3) (fb_l_mixed_l0 c)) (sSeq (sFz 2) (sRet (eVar 2)))))
def g_l_mixed (c : Fn → DF) : DF := runF 2 4 (fb_l_mixed c)
def fb_Closure_init (c : Fn → DF) : DS := (sSeq (sFldH "Closure" "parents" (eVar 0) (eNew (fRng (eVar 1)))) (sSeq (sFldH "Closure" "unlike" (eVar 0) (eCB listD (aCons (eVar 2) aNil))) (sSeq (sFldH "Closure" "known" (eVar 0) (eNew (fLst aNil))) (sSeq (sFldH "Closure" "bars" (eVar 0) (eNew (fLst aNil))) (sSeq (sFldH "Closure" "told" (eVar 0) (eC (.int 0))) (sFldH "Closure" "settled" (eVar 0) (eC (.bl true))))))))
def g_Closure_init (c : Fn → DF) : DF := runF 3 3 (fb_Closure_init c)
def fb_Closure_not_all (c : Fn → DF) : DS := (sSeq (sAugF addI "Closure" "told" (eVar 0) (eC (.int 1))) (sExpr (eHdlM appD (eFld "Closure" "bars" (eVar 0)) (aCons (eLend (eCB tupleD (aCons (eFrz (fLc (iSq (eVar 1)) (gTL (gsCons (gN 2) (gsCons (gN 3) gsNil))) tTrue (eTup (aCons (eVar 2) (aCons (eVar 3) aNil))) [2, 3])) aNil))) aNil))))
def g_Closure_not_all (c : Fn → DF) : DF := runF 2 4 (fb_Closure_not_all c)
def fb_Closure_root (c : Fn → DF) : DS := (sSeq (sWhl 200 (tVal (eBin neE (eBin ixD (eFld "Closure" "parents" (eVar 0)) (eVar 1)) (eVar 1))) (sAsg 1 (eBin ixD (eFld "Closure" "parents" (eVar 0)) (eVar 1)))) (sRet (eVar 1)))
def g_Closure_root (c : Fn → DF) : DF := runF 2 2 (fb_Closure_root c)
def fb_Closure_merge (c : Fn → DF) : DS := (sSeq (sPar 3 4 (aCons (eMeth "Closure" "root" [] (c .Closure_root) (eVar 0) (aCons (eVar 1) aNil)) (aCons (eMeth "Closure" "root" [] (c .Closure_root) (eVar 0) (aCons (eVar 2) aNil)) aNil))) (sSeq (sIf (tVal (eBin eqE (eVar 3) (eVar 4))) sRetN sNil) (sSeq (sIf (tVal (eBin (pu2 ltD) (eVar 4) (eVar 3))) (sPar 3 4 (aCons (eVar 4) (aCons (eVar 3) aNil))) sNil) (sSeq (sSetI (eFld "Closure" "parents" (eVar 0)) (eVar 4) (eVar 3)) (sFldH "Closure" "settled" (eVar 0) (eC (.bl false)))))))
def g_Closure_merge (c : Fn → DF) : DF := runF 3 5 (fb_Closure_merge c)
def fb_Closure_join (c : Fn → DF) : DS := (sSeq (sAugF addI "Closure" "told" (eVar 0) (eC (.int 1))) (sExpr (eMeth "Closure" "merge" [] (c .Closure_merge) (eVar 0) (aCons (eVar 1) (aCons (eVar 2) aNil)))))
def g_Closure_join (c : Fn → DF) : DF := runF 3 3 (fb_Closure_join c)
def fb_Closure_row (c : Fn → DF) : DS := (sSeq (sAugF addI "Closure" "told" (eVar 0) (eC (.int 1))) (sSeq (sExpr (eHdlM appD (eFld "Closure" "known" (eVar 0)) (aCons (eTup (aCons (eVar 1) (aCons (eCB tupleD (aCons (eVar 2) aNil)) (aCons (eVar 3) aNil)))) aNil))) (sFldH "Closure" "settled" (eVar 0) (eC (.bl false)))))
def g_Closure_row (c : Fn → DF) : DF := runF 4 4 (fb_Closure_row c)
def fb_l_tell_l0 (c : Fn → DF) : DS := (sSetI (eVar 7) (eC (.int 0)) (eBin ixD (eVar 7) (eC (.int 1))))
def fb_l_tell (c : Fn → DF) : DS := (sSeq (sAsg 3 (eBin eqE (eCall (c .l_take) (aCons (eVar 0) (aCons (eC (.int 2)) aNil))) (eC (.int 0)))) (sSeq (sIf (tVal (eBin eqE (eBin ixD (eVar 2) (eC (.int 0))) (eC (.str "join")))) (sRet (eMeth "Closure" "join" [] (c .Closure_join) (eVar 1) (aCons (eBin ixD (eVar 2) (eC (.int 1))) (aCons (eBin ixD (eVar 2) (eC (.int 2))) aNil)))) sNil) (sSeq (sIf (tVal (eBin eqE (eBin ixD (eVar 2) (eC (.int 0))) (eC (.str "row")))) (sSeq (sAsg 4 (eNew (fList (aCons (eBin ixD (eVar 2) (eC (.int 2))) aNil)))) (sSeq (sAsg 5 (eMeth "Closure" "row" [] (c .Closure_row) (eVar 1) (aCons (eBin ixD (eVar 2) (eC (.int 1))) (aCons (eIf (tTru (eVar 3)) (eVar 4) (eBin ixD (eVar 2) (eC (.int 2)))) (aCons (eBin ixD (eVar 2) (eC (.int 3))) aNil))))) (sSeq (sExpr (eHdlM appD (eVar 4) (aCons (eC (.int 0)) aNil))) (sSeq (sCutP (eVar 4) (eFrz (fLst (aCons (eC (.int 0)) aNil))) oNone (oSome (eC (.int 1)))) (sRet (eVar 5)))))) sNil) (sSeq (sAsg 6 (eNew (fLc (iSq (eBin ixD (eVar 2) (eC (.int 1)))) (gN 7) tTrue (eNew (fList (aCons (eVar 7) aNil))) [7]))) (sSeq (sAsg 5 (eMeth "Closure" "not_all" [] (c .Closure_not_all) (eVar 1) (aCons (eIf (tTru (eVar 3)) (eVar 6) (eBin ixD (eVar 2) (eC (.int 1)))) aNil))) (sSeq (sForH (eVar 6) (gN 7) (fb_l_tell_l0 c)) (sSeq (sCutP (eVar 6) (eFrz (fLst aNil)) oNone (oSome (eC (.int 1)))) (sRet (eVar 5)))))))))
def g_l_tell (c : Fn → DF) : DF := runF 3 8 (fb_l_tell c)
def fb_l_made_l0 (c : Fn → DF) : DS := (sExpr (eCall (c .l_tell) (aCons (eVar 0) (aCons (eVar 4) (aCons (eVar 5) aNil)))))
def fb_l_made (c : Fn → DF) : DS := (sSeq (sAsg 4 (eMkH "Closure" dl_Closure_2 (c .Closure_init) (aCons (eVar 1) (aCons (eVar 2) aNil)))) (sSeq (sFor (iSq (eVar 3)) (gN 5) (fb_l_made_l0 c)) (sRet (eVar 4))))
def g_l_made (c : Fn → DF) : DF := runF 4 6 (fb_l_made c)
def fb_Closure_copied (c : Fn → DF) : DS := (sSeq (sAsg 1 (eMkH "Closure" dl_Closure_2 (c .Closure_init) (aCons (eC (.int 0)) (aCons (eFld "Closure" "unlike" (eVar 0)) aNil)))) (sSeq (sFldH "Closure" "parents" (eVar 1) (eNew (fList (aCons (eFld "Closure" "parents" (eVar 0)) aNil)))) (sSeq (sFldH "Closure" "known" (eVar 1) (eNew (fList (aCons (eFld "Closure" "known" (eVar 0)) aNil)))) (sSeq (sFldH "Closure" "bars" (eVar 1) (eNew (fList (aCons (eFld "Closure" "bars" (eVar 0)) aNil)))) (sSeq (sFldH "Closure" "told" (eVar 1) (eFld "Closure" "told" (eVar 0))) (sSeq (sFldH "Closure" "settled" (eVar 1) (eFld "Closure" "settled" (eVar 0))) (sRet (eVar 1))))))))
def g_Closure_copied (c : Fn → DF) : DF := runF 1 2 (fb_Closure_copied c)
def fb_Closure_settle_l0 (c : Fn → DF) : DS := (sSeq (sAsg 5 (eTup (aCons (eVar 2) (aCons (eCB tupleD (aCons (eFrz (fLc (iSq (eVar 3)) (gN 6) tTrue (eMeth "Closure" "root" [] (c .Closure_root) (eVar 0) (aCons (eVar 6) aNil)) [6])) aNil)) aNil)))) (sExpr (eMeth "Closure" "merge" [] (c .Closure_merge) (eVar 0) (aCons (eNDef (eVar 1) (eVar 5) (eVar 4)) (aCons (eVar 4) aNil)))))
def fb_Closure_settle (c : Fn → DF) : DS := (sWhl 200 (tNot' (tTru (eFld "Closure" "settled" (eVar 0)))) (sSeq (sFldH "Closure" "settled" (eVar 0) (eC (.bl true))) (sSeq (sAsg 1 eNewN) (sForH (eFld "Closure" "known" (eVar 0)) (gT (gsCons (gN 2) (gsCons (gN 3) (gsCons (gN 4) gsNil)))) (fb_Closure_settle_l0 c)))))
def g_Closure_settle (c : Fn → DF) : DF := runF 1 7 (fb_Closure_settle c)
def fb_Closure_differs_l0 (c : Fn → DF) : DS := (sIf (tVal (eBin neE (eMeth "Closure" "root" [] (c .Closure_root) (eVar 0) (aCons (eVar 2) aNil)) (eMeth "Closure" "root" [] (c .Closure_root) (eVar 0) (aCons (eVar 3) aNil)))) (sRet (eC (.bl true))) sNil)
def fb_Closure_differs (c : Fn → DF) : DS := (sSeq (sExpr (eMeth "Closure" "settle" [] (c .Closure_settle) (eVar 0) aNil)) (sSeq (sFor (iSq (eVar 1)) (gT (gsCons (gN 2) (gsCons (gN 3) gsNil))) (fb_Closure_differs_l0 c)) (sRet (eC (.bl false)))))
def g_Closure_differs (c : Fn → DF) : DF := runF 2 4 (fb_Closure_differs c)
def fb_Closure_stands_l0 (c : Fn → DF) : DS := (sIf (tNot' (tTru (eMeth "Closure" "differs" [] (c .Closure_differs) (eVar 0) (aCons (eVar 2) aNil)))) (sRet (eC (.bl false))) sNil)
def fb_Closure_stands (c : Fn → DF) : DS := (sSeq (sExpr (eMeth "Closure" "settle" [] (c .Closure_settle) (eVar 0) aNil)) (sSeq (sAsg 1 (eFrz (fLc (iSq (eFld "Closure" "unlike" (eVar 0))) (gN 3) tTrue (eMeth "Closure" "root" [] (c .Closure_root) (eVar 0) (aCons (eVar 3) aNil)) [3]))) (sSeq (sIf (tVal (eBin (pu2 ltD) (eLenSetI (aCons (eVar 1) aNil)) (eCB lenD (aCons (eVar 1) aNil)))) (sRet (eC (.bl false))) sNil) (sSeq (sForH (eFld "Closure" "bars" (eVar 0)) (gN 2) (fb_Closure_stands_l0 c)) (sRet (eC (.bl true)))))))
def g_Closure_stands (c : Fn → DF) : DF := runF 1 4 (fb_Closure_stands c)
def fb_Closure_same (c : Fn → DF) : DS := (sRet (eOr (eNot (eMeth "Closure" "stands" [] (c .Closure_stands) (eVar 0) aNil)) (eBin eqE (eMeth "Closure" "root" [] (c .Closure_root) (eVar 0) (aCons (eVar 1) aNil)) (eMeth "Closure" "root" [] (c .Closure_root) (eVar 0) (aCons (eVar 2) aNil)))))
def g_Closure_same (c : Fn → DF) : DF := runF 3 3 (fb_Closure_same c)
def fb_l_copied (c : Fn → DF) : DS := (sSeq (sAsg 4 (eCall (c .l_made) (aCons (eVar 0) (aCons (eVar 1) (aCons (eVar 2) (aCons (eVar 3) aNil)))))) (sSeq (sIf (tVal (eBin eqE (eCall (c .l_take) (aCons (eVar 0) (aCons (eC (.int 2)) aNil))) (eC (.int 0)))) (sAsg 4 (eMeth "Closure" "copied" [] (c .Closure_copied) (eVar 4) aNil)) sNil) (sSeq (sIf (tVal (eBin eqE (eCall (c .l_take) (aCons (eVar 0) (aCons (eC (.int 3)) aNil))) (eC (.int 0)))) (sSeq (sExpr (eMeth "Closure" "same" [] (c .Closure_same) (eVar 4) (aCons (eC (.int 0)) (aCons (eBin (pu2 subD) (eVar 1) (eC (.int 1))) aNil)))) (sExpr (eMeth "Closure" "stands" [] (c .Closure_stands) (eVar 4) aNil))) sNil) (sRet (eVar 4)))))
def g_l_copied (c : Fn → DF) : DF := runF 4 5 (fb_l_copied c)
def fb_l_one (c : Fn → DF) : DS := (sRet (eBin ixD (eVar 1) (eCall (c .l_take) (aCons (eVar 0) (aCons (eCB lenD (aCons (eVar 1) aNil)) aNil)))))
def g_l_one (c : Fn → DF) : DF := runF 2 2 (fb_l_one c)
def fb_l_fact (c : Fn → DF) : DS := (sSeq (sAsg 2 (eCall (c .l_take) (aCons (eVar 0) (aCons (eC (.int 5)) aNil)))) (sSeq (sIf (tOr' (tVal (eBin eqE (eVar 1) (eC (.int 0)))) (tVal (eBin eqE (eVar 2) (eC (.int 4))))) (sSeq (sAsg 3 (eBin (pu2 mulD) (eBin ixD (eFrz (fLst (aCons (eC (.int 1)) (aCons (eC (.int 2)) (aCons (eC (.int 1)) (aCons (eC (.int 3)) (aCons (eC (.int 2)) (aCons (eC (.int 4)) (aCons (eC (.int 0)) aNil))))))))) (eCall (c .l_take) (aCons (eVar 0) (aCons (eC (.int 7)) aNil)))) (eCB intD2 (aCons (eBin (pu2 gtD) (eVar 1) (eC (.int 0))) aNil)))) (sRet (eTup (aCons (eC (.str "not")) (aCons (eCB tupleD (aCons (eFrz (fLc (iRng1' (aCons (eVar 3) aNil)) (gN 6) tTrue (eTup (aCons (eCall (c .l_take) (aCons (eVar 0) (aCons (eVar 1) aNil))) (aCons (eCall (c .l_take) (aCons (eVar 0) (aCons (eVar 1) aNil))) aNil))) [6])) aNil)) aNil))))) sNil) (sSeq (sIf (tVal (eBin eqE (eVar 2) (eC (.int 0)))) (sRet (eTup (aCons (eC (.str "join")) (aCons (eCall (c .l_take) (aCons (eVar 0) (aCons (eVar 1) aNil))) (aCons (eCall (c .l_take) (aCons (eVar 0) (aCons (eVar 1) aNil))) aNil))))) sNil) (sSeq (sAsg 4 (eCall (c .l_one) (aCons (eVar 0) (aCons (eFrz (fLst (aCons (eC (.str "f")) (aCons (eC (.str "f")) (aCons (eC (.str "g")) (aCons (eC (.str "")) (aCons (eC (.str "f 0")) (aCons (eC (.str "cell")) aNil)))))))) aNil)))) (sSeq (sAsg 5 (eCB tupleD (aCons (eFrz (fLc (iRng1' (aCons (eBin ixD (eFrz (fLst (aCons (eC (.int 1)) (aCons (eC (.int 1)) (aCons (eC (.int 2)) (aCons (eC (.int 0)) (aCons (eC (.int 3)) (aCons (eC (.int 4)) aNil)))))))) (eCall (c .l_take) (aCons (eVar 0) (aCons (eC (.int 6)) aNil)))) aNil)) (gN 6) tTrue (eCall (c .l_take) (aCons (eVar 0) (aCons (eVar 1) aNil))) [6])) aNil))) (sRet (eTup (aCons (eC (.str "row")) (aCons (eVar 4) (aCons (eVar 5) (aCons (eCall (c .l_take) (aCons (eVar 0) (aCons (eVar 1) aNil))) aNil)))))))))))
def g_l_fact (c : Fn → DF) : DF := runF 2 7 (fb_l_fact c)
def fb_Closure_model_l0 (c : Fn → DF) : DS := (sExpr (eHdlM appD (eVar 2) (aCons (eKDef (eVar 1) (eMeth "Closure" "root" [] (c .Closure_root) (eVar 0) (aCons (eVar 3) aNil)) (eCB lenKD (aCons (eVar 1) aNil))) aNil)))
def fb_Closure_model (c : Fn → DF) : DS := (sSeq (sIf (tNot' (tTru (eMeth "Closure" "stands" [] (c .Closure_stands) (eVar 0) aNil))) (sRaise0 "Contradiction") sNil) (sSeq (sPar 1 2 (aCons (eHdlN (nD dNil)) (aCons (eNew (fLst aNil)) aNil))) (sSeq (sFor (iRng1' (aCons (eCB lenD (aCons (eFld "Closure" "parents" (eVar 0)) aNil)) aNil)) (gN 3) (fb_Closure_model_l0 c)) (sRet (eVar 2)))))
def g_Closure_model (c : Fn → DF) : DF := runF 1 4 (fb_Closure_model c)
def fb_l_model (c : Fn → DF) : DS := (sTryO ext_Contradiction (eTup (aCons (eC (.str "refused")) aNil)) (sAsg 1 (eMeth "Closure" "model" [] (c .Closure_model) (eVar 0) aNil)) (sRet (eTup (aCons (eC (.str "told")) (aCons (eVar 1) aNil)))))
def g_l_model (c : Fn → DF) : DF := runF 1 2 (fb_l_model c)
def fb_Closure_facts (c : Fn → DF) : DS := (sRet (eFld "Closure" "told" (eVar 0)))
def g_Closure_facts (c : Fn → DF) : DF := runF 1 1 (fb_Closure_facts c)
def fb_l_truth (c : Fn → DF) : DS := (sRet (eAnd (eOr (eBin (pu2 (isD false)) (eVar 0) (eC (.bl true))) (eBin (pu2 (isD false)) (eVar 0) (eC (.bl false)))) (eBin eqE (eVar 0) (eVar 1))))
def g_l_truth (c : Fn → DF) : DF := runF 2 2 (fb_l_truth c)
def fb_l_alike_l0 (c : Fn → DF) : DS := (sSeq (sAsg 7 (eMeth "Closure" "same" [] (c .Closure_same) (eVar 2) (aCons (eBin ixD (eVar 3) (eVar 6)) (aCons (eBin ixD (eVar 3) (eVar 5)) aNil)))) (sIf (tNot' (tTru (eCall (c .l_truth) (aCons (eMeth "Closure" "same" [] (c .Closure_same) (eVar 1) (aCons (eVar 5) (aCons (eVar 6) aNil))) (aCons (eVar 7) aNil))))) (sRet (eC (.bl false))) sNil))
def fb_l_alike_l1 (c : Fn → DF) : DS := (sFor (iRng1' (aCons (eBin addD (eVar 5) (eC (.int 1))) aNil)) (gN 6) (fb_l_alike_l0 c))
def fb_l_alike (c : Fn → DF) : DS := (sSeq (sAsg 4 (eBin eqE (eCall (c .l_take) (aCons (eVar 0) (aCons (eC (.int 2)) aNil))) (eC (.int 0)))) (sSeq (sIf (tAnd' (tTru (eVar 4)) (tVal (eBin neE (eMeth "Closure" "stands" [] (c .Closure_stands) (eVar 1) aNil) (eMeth "Closure" "stands" [] (c .Closure_stands) (eVar 2) aNil)))) (sRet (eC (.bl false))) sNil) (sSeq (sFor (iRng1' (aCons (eCB lenD (aCons (eVar 3) aNil)) aNil)) (gN 5) (fb_l_alike_l1 c)) (sRet (eAnd (eBin eqE (eMeth "Closure" "stands" [] (c .Closure_stands) (eVar 1) aNil) (eMeth "Closure" "stands" [] (c .Closure_stands) (eVar 2) aNil)) (eBin eqE (eMeth "Closure" "facts" [] (c .Closure_facts) (eVar 1) aNil) (eMeth "Closure" "facts" [] (c .Closure_facts) (eVar 2) aNil)))))))
def g_l_alike (c : Fn → DF) : DF := runF 4 8 (fb_l_alike c)
def fb_l_apart_l0 (c : Fn → DF) : DS := (sSeq (sAsg 9 (eCall (c .l_fact) (aCons (eVar 0) (aCons (eVar 1) aNil)))) (sSeq (sIf (tVal (eBin eqE (eCall (c .l_take) (aCons (eVar 0) (aCons (eC (.int 2)) aNil))) (eC (.int 0)))) (sSeq (sExpr (eCall (c .l_tell) (aCons (eVar 0) (aCons (eVar 4) (aCons (eVar 9) aNil))))) (sOwnM appD 6 (aCons (eVar 9) aNil))) (sSeq (sExpr (eCall (c .l_tell) (aCons (eVar 0) (aCons (eVar 5) (aCons (eVar 9) aNil))))) (sOwnM appD 7 (aCons (eVar 9) aNil)))) (sIf (tVal (eBin eqE (eCall (c .l_take) (aCons (eVar 0) (aCons (eC (.int 3)) aNil))) (eC (.int 0)))) (sSeq (sExpr (eMeth "Closure" "stands" [] (c .Closure_stands) (eVar 4) aNil)) (sExpr (eMeth "Closure" "same" [] (c .Closure_same) (eVar 5) (aCons (eC (.int 0)) (aCons (eBin (pu2 subD) (eVar 1) (eC (.int 1))) aNil))))) sNil)))
def fb_l_apart (c : Fn → DF) : DS := (sSeq (sAsg 4 (eCall (c .l_copied) (aCons (eVar 0) (aCons (eVar 1) (aCons (eVar 2) (aCons (eVar 3) aNil)))))) (sSeq (sParB [5, 6, 7] (bVa (eMeth "Closure" "copied" [] (c .Closure_copied) (eVar 4) aNil) (bOwn (nL (fList (aCons (eVar 3) aNil))) (bOwn (nL (fList (aCons (eVar 3) aNil))) bNil)))) (sSeq (sFor (iRng1' (aCons (eCall (c .l_take) (aCons (eVar 0) (aCons (eC (.int 6)) aNil))) aNil)) (gN 8) (fb_l_apart_l0 c)) (sSeq (sAsg 10 (eFrz (fRng (eVar 1)))) (sSeq (sFz 7) (sSeq (sFz 6) (sSeq (sPar 11 12 (aCons (eCall (c .l_made) (aCons (eVar 0) (aCons (eVar 1) (aCons (eVar 2) (aCons (eVar 6) aNil))))) (aCons (eCall (c .l_made) (aCons (eVar 0) (aCons (eVar 1) (aCons (eVar 2) (aCons (eVar 7) aNil))))) aNil))) (sSeq (sIf (tAnd' (tVal (eBin eqE (eCall (c .l_take) (aCons (eVar 0) (aCons (eC (.int 2)) aNil))) (eC (.int 0)))) (tVal (eBin neE (eCall (c .l_model) (aCons (eVar 4) aNil)) (eCall (c .l_model) (aCons (eVar 11) aNil))))) (sRet (eC (.bl false))) sNil) (sSeq (sIf (tOr' (tNot' (tTru (eCall (c .l_alike) (aCons (eVar 0) (aCons (eVar 5) (aCons (eVar 12) (aCons (eVar 10) aNil))))))) (tNot' (tTru (eCall (c .l_alike) (aCons (eVar 0) (aCons (eVar 4) (aCons (eVar 11) (aCons (eVar 10) aNil)))))))) (sRet (eC (.bl false))) sNil) (sSeq (sIf (tVal (eBin neE (eCall (c .l_model) (aCons (eMeth "Closure" "copied" [] (c .Closure_copied) (eVar 5) aNil) aNil)) (eCall (c .l_model) (aCons (eVar 12) aNil)))) (sRet (eC (.bl false))) sNil) (sRet (eBin eqE (eCall (c .l_model) (aCons (eVar 4) aNil)) (eCall (c .l_model) (aCons (eVar 11) aNil))))))))))))))
def g_l_apart (c : Fn → DF) : DF := runF 4 13 (fb_l_apart c)
def fb_l_renamed (c : Fn → DF) : DS := (sSeq (sIf (tVal (eBin eqE (eBin ixD (eVar 0) (eC (.int 0))) (eC (.str "join")))) (sRet (eTup (aCons (eC (.str "join")) (aCons (eBin ixD (eVar 1) (eBin ixD (eVar 0) (eC (.int 1)))) (aCons (eBin ixD (eVar 1) (eBin ixD (eVar 0) (eC (.int 2)))) aNil))))) sNil) (sSeq (sIf (tVal (eBin eqE (eBin ixD (eVar 0) (eC (.int 0))) (eC (.str "row")))) (sRet (eTup (aCons (eC (.str "row")) (aCons (eBin ixD (eVar 0) (eC (.int 1))) (aCons (eCB tupleD (aCons (eFrz (fLc (iSq (eBin ixD (eVar 0) (eC (.int 2)))) (gN 2) tTrue (eBin ixD (eVar 1) (eVar 2)) [2])) aNil)) (aCons (eBin ixD (eVar 1) (eBin ixD (eVar 0) (eC (.int 3)))) aNil)))))) sNil) (sRet (eTup (aCons (eC (.str "not")) (aCons (eCB tupleD (aCons (eFrz (fLc (iSq (eBin ixD (eVar 0) (eC (.int 1)))) (gN 3) tTrue (eTup (aCons (eBin ixD (eVar 1) (eBin ixD (eVar 3) (eC (.int 0)))) (aCons (eBin ixD (eVar 1) (eBin ixD (eVar 3) (eC (.int 1)))) aNil))) [3])) aNil)) aNil))))))
def g_l_renamed (c : Fn → DF) : DF := runF 2 4 (fb_l_renamed c)
def fb_law_l0 (c : Fn → DF) : DS := (sSeq (sAsg 3 (eBin addD (eC (.int 1)) (eCall (c .l_take) (aCons (eVar 1) (aCons (eC (.int 8)) aNil))))) (sSeq (sAsg 4 (eCB tupleD (aCons (eCut (eCall (c .l_mixed) (aCons (eVar 1) (aCons (eFrz (fRng (eVar 3))) aNil))) oNone (oSome (eCall (c .l_take) (aCons (eVar 1) (aCons (eBin addD (eCB minD (aCons (eVar 3) (aCons (eC (.int 3)) aNil))) (eC (.int 1))) aNil))))) aNil))) (sSeq (sAsg 5 (eFrz (fLc (iRng1' (aCons (eCall (c .l_take) (aCons (eVar 1) (aCons (eC (.int 9)) aNil))) aNil)) (gN 10) tTrue (eCall (c .l_fact) (aCons (eVar 1) (aCons (eVar 3) aNil))) [10]))) (sSeq (sAsg 6 (eCall (c .l_mixed) (aCons (eVar 1) (aCons (eFrz (fRng (eVar 3))) aNil)))) (sSeq (sIf (tNot' (tTru (eCall (c .l_apart) (aCons (eVar 1) (aCons (eVar 3) (aCons (eVar 4) (aCons (eVar 5) aNil))))))) (sRet (eC (.bl false))) sNil) (sSeq (sAsg 7 (eCall (c .l_copied) (aCons (eVar 1) (aCons (eVar 3) (aCons (eVar 4) (aCons (eVar 5) aNil)))))) (sSeq (sAsg 8 (eFrz (fLc (iSq (eCall (c .l_mixed) (aCons (eVar 1) (aCons (eVar 5) aNil)))) (gN 11) tTrue (eCall (c .l_renamed) (aCons (eVar 11) (aCons (eVar 6) aNil))) [11]))) (sSeq (sAsg 9 (eCall (c .l_made) (aCons (eVar 1) (aCons (eVar 3) (aCons (eCB tupleD (aCons (eFrz (fLc (iSq (eVar 4)) (gN 12) tTrue (eBin ixD (eVar 6) (eVar 12)) [12])) aNil)) (aCons (eVar 8) aNil)))))) (sIf (tNot' (tTru (eCall (c .l_alike) (aCons (eVar 1) (aCons (eVar 7) (aCons (eVar 9) (aCons (eVar 6) aNil))))))) (sRet (eC (.bl false))) sNil)))))))))
def fb_law (c : Fn → DF) : DS := (sSeq (sAsg 1 (eCall (c .l_bag) (aCons (eVar 0) aNil))) (sSeq (sFor (iRng1' (aCons (eC (.int 2)) aNil)) (gN 2) (fb_law_l0 c)) (sRet (eC (.bl true)))))
def g_law (c : Fn → DF) : DF := runF 1 13 (fb_law c)
def step (c : Fn → DF) : Fn → DF
  | .l_bag => g_l_bag c
  | .l_take => g_l_take c
  | .l_mixed => g_l_mixed c
  | .Closure_init => g_Closure_init c
  | .Closure_not_all => g_Closure_not_all c
  | .Closure_root => g_Closure_root c
  | .Closure_merge => g_Closure_merge c
  | .Closure_join => g_Closure_join c
  | .Closure_row => g_Closure_row c
  | .l_tell => g_l_tell c
  | .l_made => g_l_made c
  | .Closure_copied => g_Closure_copied c
  | .Closure_settle => g_Closure_settle c
  | .Closure_differs => g_Closure_differs c
  | .Closure_stands => g_Closure_stands c
  | .Closure_same => g_Closure_same c
  | .l_copied => g_l_copied c
  | .l_one => g_l_one c
  | .l_fact => g_l_fact c
  | .Closure_model => g_Closure_model c
  | .l_model => g_l_model c
  | .Closure_facts => g_Closure_facts c
  | .l_truth => g_l_truth c
  | .l_alike => g_l_alike c
  | .l_apart => g_l_apart c
  | .l_renamed => g_l_renamed c
  | .law => g_law c
def calls : Nat → Fn → DF
  | 0 => fun _ => gNo
  | n + 1 => step (calls n)
theorem ev_l_bag (n : Nat) (S : Sto) (a0 : Dv) : calls (n + 1) .l_bag S [a0] = kRun (fb_l_bag (calls n) [.va a0, .no] S) := ev_run S [a0] (fb_l_bag (calls n)) 1 2 rfl
theorem ev_l_take (n : Nat) (S : Sto) (a0 a1 : Dv) : calls (n + 1) .l_take S [a0, a1] = kRun (fb_l_take (calls n) [.va a0, .va a1, .no, .no, .no, .no, .no] S) := ev_run S [a0, a1] (fb_l_take (calls n)) 2 7 rfl
theorem ev_l_mixed (n : Nat) (S : Sto) (a0 a1 : Dv) : calls (n + 1) .l_mixed S [a0, a1] = kRun (fb_l_mixed (calls n) [.va a0, .va a1, .no, .no] S) := ev_run S [a0, a1] (fb_l_mixed (calls n)) 2 4 rfl
theorem ev_Closure_init (n : Nat) (S : Sto) (a0 a1 a2 : Dv) : calls (n + 1) .Closure_init S [a0, a1, a2] = kRun (fb_Closure_init (calls n) [.va a0, .va a1, .va a2] S) := ev_run S [a0, a1, a2] (fb_Closure_init (calls n)) 3 3 rfl
theorem ev_Closure_not_all (n : Nat) (S : Sto) (a0 a1 : Dv) : calls (n + 1) .Closure_not_all S [a0, a1] = kRun (fb_Closure_not_all (calls n) [.va a0, .va a1, .no, .no] S) := ev_run S [a0, a1] (fb_Closure_not_all (calls n)) 2 4 rfl
theorem ev_Closure_root (n : Nat) (S : Sto) (a0 a1 : Dv) : calls (n + 1) .Closure_root S [a0, a1] = kRun (fb_Closure_root (calls n) [.va a0, .va a1] S) := ev_run S [a0, a1] (fb_Closure_root (calls n)) 2 2 rfl
theorem ev_Closure_merge (n : Nat) (S : Sto) (a0 a1 a2 : Dv) : calls (n + 1) .Closure_merge S [a0, a1, a2] = kRun (fb_Closure_merge (calls n) [.va a0, .va a1, .va a2, .no, .no] S) := ev_run S [a0, a1, a2] (fb_Closure_merge (calls n)) 3 5 rfl
theorem ev_Closure_join (n : Nat) (S : Sto) (a0 a1 a2 : Dv) : calls (n + 1) .Closure_join S [a0, a1, a2] = kRun (fb_Closure_join (calls n) [.va a0, .va a1, .va a2] S) := ev_run S [a0, a1, a2] (fb_Closure_join (calls n)) 3 3 rfl
theorem ev_Closure_row (n : Nat) (S : Sto) (a0 a1 a2 a3 : Dv) : calls (n + 1) .Closure_row S [a0, a1, a2, a3] = kRun (fb_Closure_row (calls n) [.va a0, .va a1, .va a2, .va a3] S) := ev_run S [a0, a1, a2, a3] (fb_Closure_row (calls n)) 4 4 rfl
theorem ev_l_tell (n : Nat) (S : Sto) (a0 a1 a2 : Dv) : calls (n + 1) .l_tell S [a0, a1, a2] = kRun (fb_l_tell (calls n) [.va a0, .va a1, .va a2, .no, .no, .no, .no, .no] S) := ev_run S [a0, a1, a2] (fb_l_tell (calls n)) 3 8 rfl
theorem ev_l_made (n : Nat) (S : Sto) (a0 a1 a2 a3 : Dv) : calls (n + 1) .l_made S [a0, a1, a2, a3] = kRun (fb_l_made (calls n) [.va a0, .va a1, .va a2, .va a3, .no, .no] S) := ev_run S [a0, a1, a2, a3] (fb_l_made (calls n)) 4 6 rfl
theorem ev_Closure_copied (n : Nat) (S : Sto) (a0 : Dv) : calls (n + 1) .Closure_copied S [a0] = kRun (fb_Closure_copied (calls n) [.va a0, .no] S) := ev_run S [a0] (fb_Closure_copied (calls n)) 1 2 rfl
theorem ev_Closure_settle (n : Nat) (S : Sto) (a0 : Dv) : calls (n + 1) .Closure_settle S [a0] = kRun (fb_Closure_settle (calls n) [.va a0, .no, .no, .no, .no, .no, .no] S) := ev_run S [a0] (fb_Closure_settle (calls n)) 1 7 rfl
theorem ev_Closure_differs (n : Nat) (S : Sto) (a0 a1 : Dv) : calls (n + 1) .Closure_differs S [a0, a1] = kRun (fb_Closure_differs (calls n) [.va a0, .va a1, .no, .no] S) := ev_run S [a0, a1] (fb_Closure_differs (calls n)) 2 4 rfl
theorem ev_Closure_stands (n : Nat) (S : Sto) (a0 : Dv) : calls (n + 1) .Closure_stands S [a0] = kRun (fb_Closure_stands (calls n) [.va a0, .no, .no, .no] S) := ev_run S [a0] (fb_Closure_stands (calls n)) 1 4 rfl
theorem ev_Closure_same (n : Nat) (S : Sto) (a0 a1 a2 : Dv) : calls (n + 1) .Closure_same S [a0, a1, a2] = kRun (fb_Closure_same (calls n) [.va a0, .va a1, .va a2] S) := ev_run S [a0, a1, a2] (fb_Closure_same (calls n)) 3 3 rfl
theorem ev_l_copied (n : Nat) (S : Sto) (a0 a1 a2 a3 : Dv) : calls (n + 1) .l_copied S [a0, a1, a2, a3] = kRun (fb_l_copied (calls n) [.va a0, .va a1, .va a2, .va a3, .no] S) := ev_run S [a0, a1, a2, a3] (fb_l_copied (calls n)) 4 5 rfl
theorem ev_l_one (n : Nat) (S : Sto) (a0 a1 : Dv) : calls (n + 1) .l_one S [a0, a1] = kRun (fb_l_one (calls n) [.va a0, .va a1] S) := ev_run S [a0, a1] (fb_l_one (calls n)) 2 2 rfl
theorem ev_l_fact (n : Nat) (S : Sto) (a0 a1 : Dv) : calls (n + 1) .l_fact S [a0, a1] = kRun (fb_l_fact (calls n) [.va a0, .va a1, .no, .no, .no, .no, .no] S) := ev_run S [a0, a1] (fb_l_fact (calls n)) 2 7 rfl
theorem ev_Closure_model (n : Nat) (S : Sto) (a0 : Dv) : calls (n + 1) .Closure_model S [a0] = kRun (fb_Closure_model (calls n) [.va a0, .no, .no, .no] S) := ev_run S [a0] (fb_Closure_model (calls n)) 1 4 rfl
theorem ev_l_model (n : Nat) (S : Sto) (a0 : Dv) : calls (n + 1) .l_model S [a0] = kRun (fb_l_model (calls n) [.va a0, .no] S) := ev_run S [a0] (fb_l_model (calls n)) 1 2 rfl
theorem ev_Closure_facts (n : Nat) (S : Sto) (a0 : Dv) : calls (n + 1) .Closure_facts S [a0] = kRun (fb_Closure_facts (calls n) [.va a0] S) := ev_run S [a0] (fb_Closure_facts (calls n)) 1 1 rfl
theorem ev_l_truth (n : Nat) (S : Sto) (a0 a1 : Dv) : calls (n + 1) .l_truth S [a0, a1] = kRun (fb_l_truth (calls n) [.va a0, .va a1] S) := ev_run S [a0, a1] (fb_l_truth (calls n)) 2 2 rfl
theorem ev_l_alike (n : Nat) (S : Sto) (a0 a1 a2 a3 : Dv) : calls (n + 1) .l_alike S [a0, a1, a2, a3] = kRun (fb_l_alike (calls n) [.va a0, .va a1, .va a2, .va a3, .no, .no, .no, .no] S) := ev_run S [a0, a1, a2, a3] (fb_l_alike (calls n)) 4 8 rfl
theorem ev_l_apart (n : Nat) (S : Sto) (a0 a1 a2 a3 : Dv) : calls (n + 1) .l_apart S [a0, a1, a2, a3] = kRun (fb_l_apart (calls n) [.va a0, .va a1, .va a2, .va a3, .no, .no, .no, .no, .no, .no, .no, .no, .no] S) := ev_run S [a0, a1, a2, a3] (fb_l_apart (calls n)) 4 13 rfl
theorem ev_l_renamed (n : Nat) (S : Sto) (a0 a1 : Dv) : calls (n + 1) .l_renamed S [a0, a1] = kRun (fb_l_renamed (calls n) [.va a0, .va a1, .no, .no] S) := ev_run S [a0, a1] (fb_l_renamed (calls n)) 2 4 rfl
theorem ev_law (n : Nat) (S : Sto) (a0 : Dv) : calls (n + 1) .law S [a0] = kRun (fb_law (calls n) [.va a0, .no, .no, .no, .no, .no, .no, .no, .no, .no, .no, .no, .no] S) := ev_run S [a0] (fb_law (calls n)) 1 13 rfl
end DL
namespace Row
open PySem L2 DL
def top (i : Nat) : Stmt := PySem.Challenge.pw_foundtwice_k44_whole_closure_of_renamed.main.body.getD i (.Pass ⟨0, 0, 0, 0⟩)
def inr (i j : Nat) : Stmt := match top i with
  | .ClassDef _ _ _ body _ _ _ _ _ _ _ => body.getD j (.Pass ⟨0, 0, 0, 0⟩)
  | s => s
abbrev st_l_bag : Stmt := top 7
theorem sc_l_bag : FnScope ["_law_script", "_law_cell"] ["_law_script"] (defScope st_l_bag) := ⟨rfl, rfl, rfl, by decide +kernel, rfl, by decide +kernel, by decide +kernel⟩
theorem bi_l_bag : BindN "_law_bag" "_law_bag" st_l_bag ["_law_script"] := fun _ _ _ _ _ _ us hl => match us, hl with | [_], _ => rfl
abbrev st_l_take : Stmt := top 8
theorem sc_l_take : FnScope ["_law_bag_here", "_law_upto", "_law_cell", "_law_mixed_here", "_law_drawn", "_law_early", "_law_second"] ["_law_bag_here", "_law_upto"] (defScope st_l_take) := ⟨rfl, rfl, rfl, by decide +kernel, rfl, by decide +kernel, by decide +kernel⟩
theorem bi_l_take : BindN "_law_take" "_law_take" st_l_take ["_law_bag_here", "_law_upto"] := fun _ _ _ _ _ _ us hl => match us, hl with | [_, _], _ => rfl
abbrev st_l_mixed : Stmt := top 10
theorem sc_l_mixed : FnScope ["_law_bag_here", "_law_things", "_law_found", "_law_thing"] ["_law_bag_here", "_law_things"] (defScope st_l_mixed) := ⟨rfl, rfl, rfl, by decide +kernel, rfl, by decide +kernel, by decide +kernel⟩
theorem bi_l_mixed : BindN "_law_mixed" "_law_mixed" st_l_mixed ["_law_bag_here", "_law_things"] := fun _ _ _ _ _ _ us hl => match us, hl with | [_, _], _ => rfl
abbrev st_Closure_init : Stmt := inr 5 0
theorem sc_Closure_init : FnScope ["self", "size", "unlike"] ["self", "size", "unlike"] (defScope st_Closure_init) := ⟨rfl, rfl, rfl, by decide +kernel, rfl, by decide +kernel, by decide +kernel⟩
abbrev st_Closure_not_all : Stmt := inr 5 6
theorem sc_Closure_not_all : FnScope ["self", "pairs", "one", "other"] ["self", "pairs"] (defScope st_Closure_not_all) := ⟨rfl, rfl, rfl, by decide +kernel, rfl, by decide +kernel, by decide +kernel⟩
theorem bi_Closure_not_all : BindN "not_all" "Closure.not_all" st_Closure_not_all ["self", "pairs"] := fun _ _ _ _ _ _ us hl => match us, hl with | [_, _], _ => rfl
abbrev st_Closure_root : Stmt := inr 5 1
theorem sc_Closure_root : FnScope ["self", "thing"] ["self", "thing"] (defScope st_Closure_root) := ⟨rfl, rfl, rfl, by decide +kernel, rfl, by decide +kernel, by decide +kernel⟩
theorem bi_Closure_root : BindN "root" "Closure.root" st_Closure_root ["self", "thing"] := fun _ _ _ _ _ _ us hl => match us, hl with | [_, _], _ => rfl
abbrev st_Closure_merge : Stmt := inr 5 2
theorem sc_Closure_merge : FnScope ["self", "one", "other", "low", "high"] ["self", "one", "other"] (defScope st_Closure_merge) := ⟨rfl, rfl, rfl, by decide +kernel, rfl, by decide +kernel, by decide +kernel⟩
theorem bi_Closure_merge : BindN "merge" "Closure.merge" st_Closure_merge ["self", "one", "other"] := fun _ _ _ _ _ _ us hl => match us, hl with | [_, _, _], _ => rfl
abbrev st_Closure_join : Stmt := inr 5 4
theorem sc_Closure_join : FnScope ["self", "one", "other"] ["self", "one", "other"] (defScope st_Closure_join) := ⟨rfl, rfl, rfl, by decide +kernel, rfl, by decide +kernel, by decide +kernel⟩
theorem bi_Closure_join : BindN "join" "Closure.join" st_Closure_join ["self", "one", "other"] := fun _ _ _ _ _ _ us hl => match us, hl with | [_, _, _], _ => rfl
abbrev st_Closure_row : Stmt := inr 5 5
theorem sc_Closure_row : FnScope ["self", "sign", "arguments", "value"] ["self", "sign", "arguments", "value"] (defScope st_Closure_row) := ⟨rfl, rfl, rfl, by decide +kernel, rfl, by decide +kernel, by decide +kernel⟩
theorem bi_Closure_row : BindN "row" "Closure.row" st_Closure_row ["self", "sign", "arguments", "value"] := fun _ _ _ _ _ _ us hl => match us, hl with | [_, _, _, _], _ => rfl
abbrev st_l_tell : Stmt := top 13
theorem sc_l_tell : FnScope ["_law_bag_here", "_law_closure", "_law_fact_here", "_law_listed", "_law_things", "_law_told", "_law_pairs", "_law_pair"] ["_law_bag_here", "_law_closure", "_law_fact_here"] (defScope st_l_tell) := ⟨rfl, rfl, rfl, by decide +kernel, rfl, by decide +kernel, by decide +kernel⟩
theorem bi_l_tell : BindN "_law_tell" "_law_tell" st_l_tell ["_law_bag_here", "_law_closure", "_law_fact_here"] := fun _ _ _ _ _ _ us hl => match us, hl with | [_, _, _], _ => rfl
abbrev st_l_made : Stmt := top 15
theorem sc_l_made : FnScope ["_law_bag_here", "_law_size", "_law_unlike", "_law_facts", "_law_closure", "_law_fact_here"] ["_law_bag_here", "_law_size", "_law_unlike", "_law_facts"] (defScope st_l_made) := ⟨rfl, rfl, rfl, by decide +kernel, rfl, by decide +kernel, by decide +kernel⟩
theorem bi_l_made : BindN "_law_made" "_law_made" st_l_made ["_law_bag_here", "_law_size", "_law_unlike", "_law_facts"] := fun _ _ _ _ _ _ us hl => match us, hl with | [_, _, _, _], _ => rfl
abbrev st_Closure_copied : Stmt := inr 5 12
theorem sc_Closure_copied : FnScope ["self", "twin"] ["self"] (defScope st_Closure_copied) := ⟨rfl, rfl, rfl, by decide +kernel, rfl, by decide +kernel, by decide +kernel⟩
theorem bi_Closure_copied : BindN "copied" "Closure.copied" st_Closure_copied ["self"] := fun _ _ _ _ _ _ us hl => match us, hl with | [_], _ => rfl
abbrev st_Closure_settle : Stmt := inr 5 7
theorem sc_Closure_settle : FnScope ["self", "values", "sign", "arguments", "value", "key", "thing"] ["self"] (defScope st_Closure_settle) := ⟨rfl, rfl, rfl, by decide +kernel, rfl, by decide +kernel, by decide +kernel⟩
theorem bi_Closure_settle : BindN "settle" "Closure.settle" st_Closure_settle ["self"] := fun _ _ _ _ _ _ us hl => match us, hl with | [_], _ => rfl
abbrev st_Closure_differs : Stmt := inr 5 8
theorem sc_Closure_differs : FnScope ["self", "pairs", "one", "other"] ["self", "pairs"] (defScope st_Closure_differs) := ⟨rfl, rfl, rfl, by decide +kernel, rfl, by decide +kernel, by decide +kernel⟩
theorem bi_Closure_differs : BindN "differs" "Closure.differs" st_Closure_differs ["self", "pairs"] := fun _ _ _ _ _ _ us hl => match us, hl with | [_, _], _ => rfl
abbrev st_Closure_stands : Stmt := inr 5 9
theorem sc_Closure_stands : FnScope ["self", "roots", "pairs", "thing"] ["self"] (defScope st_Closure_stands) := ⟨rfl, rfl, rfl, by decide +kernel, rfl, by decide +kernel, by decide +kernel⟩
theorem bi_Closure_stands : BindN "stands" "Closure.stands" st_Closure_stands ["self"] := fun _ _ _ _ _ _ us hl => match us, hl with | [_], _ => rfl
abbrev st_Closure_same : Stmt := inr 5 10
theorem sc_Closure_same : FnScope ["self", "one", "other"] ["self", "one", "other"] (defScope st_Closure_same) := ⟨rfl, rfl, rfl, by decide +kernel, rfl, by decide +kernel, by decide +kernel⟩
theorem bi_Closure_same : BindN "same" "Closure.same" st_Closure_same ["self", "one", "other"] := fun _ _ _ _ _ _ us hl => match us, hl with | [_, _, _], _ => rfl
abbrev st_l_copied : Stmt := top 18
theorem sc_l_copied : FnScope ["_law_bag_here", "_law_size", "_law_unlike", "_law_facts", "_law_closure"] ["_law_bag_here", "_law_size", "_law_unlike", "_law_facts"] (defScope st_l_copied) := ⟨rfl, rfl, rfl, by decide +kernel, rfl, by decide +kernel, by decide +kernel⟩
theorem bi_l_copied : BindN "_law_copied" "_law_copied" st_l_copied ["_law_bag_here", "_law_size", "_law_unlike", "_law_facts"] := fun _ _ _ _ _ _ us hl => match us, hl with | [_, _, _, _], _ => rfl
abbrev st_l_one : Stmt := top 9
theorem sc_l_one : FnScope ["_law_bag_here", "_law_some"] ["_law_bag_here", "_law_some"] (defScope st_l_one) := ⟨rfl, rfl, rfl, by decide +kernel, rfl, by decide +kernel, by decide +kernel⟩
theorem bi_l_one : BindN "_law_one" "_law_one" st_l_one ["_law_bag_here", "_law_some"] := fun _ _ _ _ _ _ us hl => match us, hl with | [_, _], _ => rfl
abbrev st_l_fact : Stmt := top 12
theorem sc_l_fact : FnScope ["_law_bag_here", "_law_size", "_law_way", "_law_some", "_law_sign", "_law_told", "_law_k"] ["_law_bag_here", "_law_size"] (defScope st_l_fact) := ⟨rfl, rfl, rfl, by decide +kernel, rfl, by decide +kernel, by decide +kernel⟩
theorem bi_l_fact : BindN "_law_fact" "_law_fact" st_l_fact ["_law_bag_here", "_law_size"] := fun _ _ _ _ _ _ us hl => match us, hl with | [_, _], _ => rfl
abbrev st_Closure_model : Stmt := inr 5 11
theorem sc_Closure_model : FnScope ["self", "seen", "found", "thing"] ["self"] (defScope st_Closure_model) := ⟨rfl, rfl, rfl, by decide +kernel, rfl, by decide +kernel, by decide +kernel⟩
theorem bi_Closure_model : BindN "model" "Closure.model" st_Closure_model ["self"] := fun _ _ _ _ _ _ us hl => match us, hl with | [_], _ => rfl
abbrev st_l_model : Stmt := top 16
theorem sc_l_model : FnScope ["_law_closure", "_law_told"] ["_law_closure"] (defScope st_l_model) := ⟨rfl, rfl, rfl, by decide +kernel, rfl, by decide +kernel, by decide +kernel⟩
theorem bi_l_model : BindN "_law_model" "_law_model" st_l_model ["_law_closure"] := fun _ _ _ _ _ _ us hl => match us, hl with | [_], _ => rfl
abbrev st_Closure_facts : Stmt := inr 5 13
theorem sc_Closure_facts : FnScope ["self"] ["self"] (defScope st_Closure_facts) := ⟨rfl, rfl, rfl, by decide +kernel, rfl, by decide +kernel, by decide +kernel⟩
theorem bi_Closure_facts : BindN "facts" "Closure.facts" st_Closure_facts ["self"] := fun _ _ _ _ _ _ us hl => match us, hl with | [_], _ => rfl
abbrev st_l_truth : Stmt := top 11
theorem sc_l_truth : FnScope ["_law_told", "_law_due"] ["_law_told", "_law_due"] (defScope st_l_truth) := ⟨rfl, rfl, rfl, by decide +kernel, rfl, by decide +kernel, by decide +kernel⟩
theorem bi_l_truth : BindN "_law_truth" "_law_truth" st_l_truth ["_law_told", "_law_due"] := fun _ _ _ _ _ _ us hl => match us, hl with | [_, _], _ => rfl
abbrev st_l_alike : Stmt := top 17
theorem sc_l_alike : FnScope ["_law_bag_here", "_law_one_here", "_law_other", "_law_order", "_law_first", "_law_thing", "_law_late", "_law_told"] ["_law_bag_here", "_law_one_here", "_law_other", "_law_order"] (defScope st_l_alike) := ⟨rfl, rfl, rfl, by decide +kernel, rfl, by decide +kernel, by decide +kernel⟩
theorem bi_l_alike : BindN "_law_alike" "_law_alike" st_l_alike ["_law_bag_here", "_law_one_here", "_law_other", "_law_order"] := fun _ _ _ _ _ _ us hl => match us, hl with | [_, _, _, _], _ => rfl
abbrev st_l_apart : Stmt := top 19
theorem sc_l_apart : FnScope ["_law_bag_here", "_law_size", "_law_unlike", "_law_facts", "_law_one_here", "_law_copy", "_law_mine", "_law_others", "_law_k", "_law_fact_here", "_law_names", "_law_first", "_law_late"] ["_law_bag_here", "_law_size", "_law_unlike", "_law_facts"] (defScope st_l_apart) := ⟨rfl, rfl, rfl, by decide +kernel, rfl, by decide +kernel, by decide +kernel⟩
theorem bi_l_apart : BindN "_law_apart" "_law_apart" st_l_apart ["_law_bag_here", "_law_size", "_law_unlike", "_law_facts"] := fun _ _ _ _ _ _ us hl => match us, hl with | [_, _, _, _], _ => rfl
abbrev st_l_renamed : Stmt := top 14
theorem sc_l_renamed : FnScope ["_law_fact_here", "_law_order", "_law_thing", "_law_pair"] ["_law_fact_here", "_law_order"] (defScope st_l_renamed) := ⟨rfl, rfl, rfl, by decide +kernel, rfl, by decide +kernel, by decide +kernel⟩
theorem bi_l_renamed : BindN "_law_renamed" "_law_renamed" st_l_renamed ["_law_fact_here", "_law_order"] := fun _ _ _ _ _ _ us hl => match us, hl with | [_, _], _ => rfl
abbrev st_law : Stmt := top 20
theorem sc_law : FnScope ["_law_script", "_law_bag_here", "_law_go", "_law_size", "_law_unlike", "_law_facts", "_law_order", "_law_one_here", "_law_turned", "_law_other", "_law_k", "_law_fact_here", "_law_thing"] ["_law_script"] (defScope st_law) := ⟨rfl, rfl, rfl, by decide +kernel, rfl, by decide +kernel, by decide +kernel⟩
theorem bi_law : BindN "law" "law" st_law ["_law_script"] := fun _ _ _ _ _ _ us hl => match us, hl with | [_], _ => rfl
def dd_l_bag : Dfn := ⟨fun K => He.ga K "_law_bag", "_law_bag", "_law_bag", defArgs st_l_bag, defBody st_l_bag, defScope st_l_bag, [], []⟩
def dd_l_take : Dfn := ⟨fun K => He.ga K "_law_take", "_law_take", "_law_take", defArgs st_l_take, defBody st_l_take, defScope st_l_take, [], []⟩
def dd_l_mixed : Dfn := ⟨fun K => He.ga K "_law_mixed", "_law_mixed", "_law_mixed", defArgs st_l_mixed, defBody st_l_mixed, defScope st_l_mixed, [], []⟩
def dd_Closure_init : Dfn := ⟨fun K => He.ma K (He.ga K "Closure") "__init__", "__init__", "Closure.__init__", defArgs st_Closure_init, defBody st_Closure_init, defScope st_Closure_init, [(.adr (He.dflAt ("Closure", some "__init__") 0))], []⟩
def dd_Closure_not_all : Dfn := ⟨fun K => He.ma K (He.ga K "Closure") "not_all", "not_all", "Closure.not_all", defArgs st_Closure_not_all, defBody st_Closure_not_all, defScope st_Closure_not_all, [], []⟩
def dd_Closure_root : Dfn := ⟨fun K => He.ma K (He.ga K "Closure") "root", "root", "Closure.root", defArgs st_Closure_root, defBody st_Closure_root, defScope st_Closure_root, [], []⟩
def dd_Closure_merge : Dfn := ⟨fun K => He.ma K (He.ga K "Closure") "merge", "merge", "Closure.merge", defArgs st_Closure_merge, defBody st_Closure_merge, defScope st_Closure_merge, [], []⟩
def dd_Closure_join : Dfn := ⟨fun K => He.ma K (He.ga K "Closure") "join", "join", "Closure.join", defArgs st_Closure_join, defBody st_Closure_join, defScope st_Closure_join, [], []⟩
def dd_Closure_row : Dfn := ⟨fun K => He.ma K (He.ga K "Closure") "row", "row", "Closure.row", defArgs st_Closure_row, defBody st_Closure_row, defScope st_Closure_row, [], []⟩
def dd_l_tell : Dfn := ⟨fun K => He.ga K "_law_tell", "_law_tell", "_law_tell", defArgs st_l_tell, defBody st_l_tell, defScope st_l_tell, [], []⟩
def dd_l_made : Dfn := ⟨fun K => He.ga K "_law_made", "_law_made", "_law_made", defArgs st_l_made, defBody st_l_made, defScope st_l_made, [], []⟩
def dd_Closure_copied : Dfn := ⟨fun K => He.ma K (He.ga K "Closure") "copied", "copied", "Closure.copied", defArgs st_Closure_copied, defBody st_Closure_copied, defScope st_Closure_copied, [], []⟩
def dd_Closure_settle : Dfn := ⟨fun K => He.ma K (He.ga K "Closure") "settle", "settle", "Closure.settle", defArgs st_Closure_settle, defBody st_Closure_settle, defScope st_Closure_settle, [], []⟩
def dd_Closure_differs : Dfn := ⟨fun K => He.ma K (He.ga K "Closure") "differs", "differs", "Closure.differs", defArgs st_Closure_differs, defBody st_Closure_differs, defScope st_Closure_differs, [], []⟩
def dd_Closure_stands : Dfn := ⟨fun K => He.ma K (He.ga K "Closure") "stands", "stands", "Closure.stands", defArgs st_Closure_stands, defBody st_Closure_stands, defScope st_Closure_stands, [], []⟩
def dd_Closure_same : Dfn := ⟨fun K => He.ma K (He.ga K "Closure") "same", "same", "Closure.same", defArgs st_Closure_same, defBody st_Closure_same, defScope st_Closure_same, [], []⟩
def dd_l_copied : Dfn := ⟨fun K => He.ga K "_law_copied", "_law_copied", "_law_copied", defArgs st_l_copied, defBody st_l_copied, defScope st_l_copied, [], []⟩
def dd_l_one : Dfn := ⟨fun K => He.ga K "_law_one", "_law_one", "_law_one", defArgs st_l_one, defBody st_l_one, defScope st_l_one, [], []⟩
def dd_l_fact : Dfn := ⟨fun K => He.ga K "_law_fact", "_law_fact", "_law_fact", defArgs st_l_fact, defBody st_l_fact, defScope st_l_fact, [], []⟩
def dd_Closure_model : Dfn := ⟨fun K => He.ma K (He.ga K "Closure") "model", "model", "Closure.model", defArgs st_Closure_model, defBody st_Closure_model, defScope st_Closure_model, [], []⟩
def dd_l_model : Dfn := ⟨fun K => He.ga K "_law_model", "_law_model", "_law_model", defArgs st_l_model, defBody st_l_model, defScope st_l_model, [], []⟩
def dd_Closure_facts : Dfn := ⟨fun K => He.ma K (He.ga K "Closure") "facts", "facts", "Closure.facts", defArgs st_Closure_facts, defBody st_Closure_facts, defScope st_Closure_facts, [], []⟩
def dd_l_truth : Dfn := ⟨fun K => He.ga K "_law_truth", "_law_truth", "_law_truth", defArgs st_l_truth, defBody st_l_truth, defScope st_l_truth, [], []⟩
def dd_l_alike : Dfn := ⟨fun K => He.ga K "_law_alike", "_law_alike", "_law_alike", defArgs st_l_alike, defBody st_l_alike, defScope st_l_alike, [], []⟩
def dd_l_apart : Dfn := ⟨fun K => He.ga K "_law_apart", "_law_apart", "_law_apart", defArgs st_l_apart, defBody st_l_apart, defScope st_l_apart, [], []⟩
def dd_l_renamed : Dfn := ⟨fun K => He.ga K "_law_renamed", "_law_renamed", "_law_renamed", defArgs st_l_renamed, defBody st_l_renamed, defScope st_l_renamed, [], []⟩
def dd_law : Dfn := ⟨fun K => He.ga K "law", "law", "law", defArgs st_law, defBody st_law, defScope st_law, [], []⟩
def fn : List Dfn := [dd_l_bag, dd_l_take, dd_l_mixed, dd_Closure_init, dd_Closure_not_all, dd_Closure_root, dd_Closure_merge, dd_Closure_join, dd_Closure_row, dd_l_tell, dd_l_made, dd_Closure_copied, dd_Closure_settle, dd_Closure_differs, dd_Closure_stands, dd_Closure_same, dd_l_copied, dd_l_one, dd_l_fact, dd_Closure_model, dd_l_model, dd_Closure_facts, dd_l_truth, dd_l_alike, dd_l_apart, dd_l_renamed, dd_law]
def ts : List He.Tab := []
def fa0 : List Ft := [.free "abs", .free "int", .free "len", .free "list", .free "min", .free "range", .free "set", .free "tuple", .glo "_law_bag", .glo "_law_take", .glo "_law_mixed", .glo "_law_tell", .glo "_law_made", .glo "_law_copied", .glo "_law_one", .glo "_law_fact", .glo "_law_model", .glo "_law_truth", .glo "_law_alike", .glo "_law_apart"]
def fa1 : List Ft := [.glo "_law_renamed", .glo "law", .glo "Closure", .glo "Contradiction", faB (.cls "Closure"), faB (.mkr "Closure"), faB (.noat "Closure" "bars"), faB (.noat "Closure" "known"), faB (.noat "Closure" "parents"), faB (.noat "Closure" "settled"), faB (.noat "Closure" "told"), faB (.noat "Closure" "unlike"), xtB xtab, extB "Contradiction" ext_Contradiction, x0B "Contradiction", emB ("Closure", some "__init__") 0, faB (.meth "Closure" "not_all"), faB (.meth "Closure" "root"), faB (.meth "Closure" "merge"), faB (.meth "Closure" "join")]
def fa2 : List Ft := [faB (.meth "Closure" "row"), faB (.meth "Closure" "copied"), faB (.meth "Closure" "settle"), faB (.meth "Closure" "differs"), faB (.meth "Closure" "stands"), faB (.meth "Closure" "same"), faB (.meth "Closure" "model"), faB (.meth "Closure" "facts")]
def fa : List Ft := fa0 ++ fa1 ++ fa2
def loose0 : List PySem.Str := ["_wall", "FoundError", "Contradiction", "Closure", "_law_bag", "_law_take", "_law_one", "_law_mixed", "_law_truth", "_law_fact", "_law_tell", "_law_renamed", "_law_made", "_law_model", "_law_alike", "_law_copied", "_law_apart"]
def loose : List PySem.Str := loose0
abbrev R : PySem.W.OpenRow := PySem.W.OpenLaw.row PySem.Challenge.rw_foundtwice_k44_whole_closure_of_renamed
abbrev hk : PySem.W.Hook := hookA 1500 fa fn ts
def ob (s : PySem.W.SharedT) : AlN := obsNA 1500 fa fn ts (HandSHeadRun.getT s)
theorem ob_eq (s : PySem.W.SharedT) : ob s = hk.obs s.abs := obsNA_eq (HandSHeadRun.getT_eq s)
theorem map3 {A B C D : Type} {x : Option A} {f : A → B} {g : A → C} {h : A → D} {a : B} {b : C} {c : D} (h1 : x.map f = some a) (h2 : x.map g = some b) (h3 : x.map h = some c) : x.map (fun s => (f s, g s, h s)) = some (a, b, c) := by
  cases x with
  | none => cases h1
  | some s =>
    injection h1 with h1
    injection h2 with h2
    injection h3 with h3
    show some (f s, g s, h s) = _
    rw [h1, h2, h3]
open PySem.W PySem.Calls PyProof.Rows in
theorem run_w1 (w : World) (os : OsState) : (HandSHeadRun.endF (HandSHeadRun.stepQ (HandSHeadRun.denQ HandSHeadRun.tabQ) R.prog w) 20000 R.prog w os).map (fun s => HandSHeadRun.looksF R.prog (boot_heap (w).params) s.abs) = some true := by
  kernel_rfl
open PySem.W PySem.Calls PyProof.Rows in
theorem run_w2 (w : World) (os : OsState) : (HandSHeadRun.endF (HandSHeadRun.stepQ (HandSHeadRun.denQ HandSHeadRun.tabQ) R.prog w) 20000 R.prog w os).map (fun s => HandSHeadRun.seenQ (PySem.W.view R.prog [20]) loose (importedModules R.prog.main.body) (fun s => xlAt (PySem.W.view R.prog [20]) [] s && recOk R.toRowW.records s) s.abs) = some (openGood (PySem.W.view R.prog [20]) loose) := by
  kernel_rfl
open PySem.W PySem.Calls PyProof.Rows in
theorem run_w3 (w : World) (os : OsState) : (HandSHeadRun.endF (HandSHeadRun.stepQ (HandSHeadRun.denQ HandSHeadRun.tabQ) R.prog w) 20000 R.prog w os).map (fun s => ob s) = some (hk.val w) := by
  kernel_rfl
theorem run_w (w : World) : HandSHeadRun.RunEq R (PySem.W.view R.prog [20]) hk ob 20000 loose w := fun os => map3 (run_w1 w os) (run_w2 w os) (run_w3 w os)
theorem run (w : World) : HandSHeadRun.RunEq R (PySem.W.view R.prog [20]) hk ob 20000 loose w := run_w w
end Row
namespace DL
open PySem L2
def bagOb (c0 c1 c2 : Int) (cells : List Int) : Ob := .lst [.int c0, .int c1, .int c2, .lst (cells.map Dv.int)]
def BagOk (o : Ob) : Prop := ∃ (c0 c1 c2 : Int) (cells : List Int), o = bagOb c0 c1 c2 cells ∧ 0 ≤ c0 ∧ 0 ≤ c1 ∧ c1 < 2147483647 ∧ 0 ≤ c2 ∧ ∀ c ∈ cells, 0 ≤ c
def BagAt (S : Sto) (b : Nat) : Prop := ∃ o, S[b]? = some o ∧ BagOk o
theorem take_ok (m : Nat) {S : Sto} {b : Nat} {n : Int} (hB : BagAt S b) (hn : 0 < n) (hn2 : n < 1073741824) : ∃ r o, calls (m + 1) .l_take S [.hdl b, .int n] = .ok (.int r) (S.set b o) ∧ 0 ≤ r ∧ r < n ∧ BagOk o := by
  obtain ⟨o, h, c0, c1, c2, cells, rfl, k0, k1, k2, k3, k4⟩ := hB
  have hset : ∀ x : Ob, (S.set b x)[b]? = some x := fun x => by rw [List.getElem?_set, if_pos rfl, if_pos (List.getElem?_eq_some_iff.mp h).1]
  have nl : (0 : Int) ≤ c2 + 1 := by omega
  have hm : ∀ x : Int, 0 ≤ x % n ∧ x % n < n := fun x => ⟨Int.emod_nonneg _ (by omega), Int.emod_lt_of_pos _ hn⟩
  have hp : ∀ x : Int, 0 ≤ x % 2147483647 ∧ x % 2147483647 < 2147483647 := fun x => ⟨Int.emod_nonneg _ (by decide), Int.emod_lt_of_pos _ (by decide)⟩
  have hd : ∀ x : Int, 0 ≤ x → 0 ≤ x / n := fun x hx => Int.ediv_nonneg hx (by omega)
  unfold bagOb at h
  by_cases h0 : c0 = 0
  · subst h0
    have mul1 : -(2 ^ 64) < c1 ∧ c1 < 2 ^ 64 := by omega
    have cell : ∃ c : Int, 0 ≤ c ∧ ((c2 < (cells.length : Int) ∧ atI (cells.map Dv.int) c2 = some (.int c)) ∨ (¬ c2 < (cells.length : Int) ∧ c = 0)) := by
      by_cases hl : c2 < (cells.length : Int)
      · have hl2 : c2.toNat < cells.length := by omega
        exact ⟨cells[c2.toNat], k4 _ (List.getElem_mem hl2), .inl ⟨hl, by unfold atI; rw [List.length_map, ixN_ok k3 hl]; simp [hl2]⟩⟩
      · exact ⟨0, Int.le_refl _, .inr ⟨hl, rfl⟩⟩
    obtain ⟨c, hc, hcell⟩ := cell
    by_cases hbig : 1000000000000000000 ≤ c
    · have c0p : (0 : Int) < c := by omega
      refine ⟨c % n, bagOb (c / n) ((c1 * 48271 + c % 2147483647 + 7919 * (c2 + 1)) % 2147483647) (c2 + 1) cells, ?_, (hm c).1, (hm c).2, _, _, _, _, rfl, hd c hc, (hp _).1, (hp _).2, nl, k4⟩
      unfold bagOb
      rcases hcell with ⟨hl, e⟩ | ⟨hl, e⟩
      · simp [ev_l_take, fb_l_take, op_mul_i, op_mod_i, op_fdiv_i, hn, hn2, ixN_ok, h, hl, hset, hbig, k3, c0p, mul1, e]
      · subst e
        omega
    · have key : ∃ c1' : Int, 0 ≤ c1' ∧ c1' < 2147483647 ∧ calls (m + 1) .l_take S [.hdl b, .int n] = .ok (.int (((((c1' + 1) * 39373 % 1000000007) * ((c1' + 1) * 39373 % 1000000007) % 998244353 * 30011) % 998244353) / 7 % n)) (S.set b (bagOb 0 c1' (c2 + 1) cells)) := by
        refine ⟨(c1 * 48271 + c % 2147483647 + 7919 * (c2 + 1)) % 2147483647, (hp _).1, (hp _).2, ?_⟩
        obtain ⟨q1, q2⟩ := hp (c1 * 48271 + c % 2147483647 + 7919 * (c2 + 1))
        have nbig : ¬ (1000000000000000000 ≤ c) := hbig
        rcases hcell with ⟨hl, e⟩ | ⟨hl, e⟩
        · unfold bagOb
          generalize hw : (c1 * 48271 + c % 2147483647 + 7919 * (c2 + 1)) % 2147483647 = w1 at *
          have m1 : -(2 ^ 64) < w1 + 1 ∧ w1 + 1 < 2 ^ 64 := by omega
          have m2 : -(2 ^ 64) < (w1 + 1) * 39373 % 1000000007 ∧ (w1 + 1) * 39373 % 1000000007 < 2 ^ 64 := by omega
          have m3 := fun S' : Sto => op_mul_i S' _ ((w1 + 1) * 39373 % 1000000007) (.inl m2)
          simp [ev_l_take, fb_l_take, op_mul_i, op_mod_i, op_fdiv_i, hn, hn2, ixN_ok, h, hl, hset, nbig, k3, mul1, e, hw, m1, m3]
        · subst e
          unfold bagOb
          generalize hw : (c1 * 48271 + (0 : Int) % 2147483647 + 7919 * (c2 + 1)) % 2147483647 = w1 at *
          have m1 : -(2 ^ 64) < w1 + 1 ∧ w1 + 1 < 2 ^ 64 := by omega
          have m2 : -(2 ^ 64) < (w1 + 1) * 39373 % 1000000007 ∧ (w1 + 1) * 39373 % 1000000007 < 2 ^ 64 := by omega
          have m3 := fun S' : Sto => op_mul_i S' _ ((w1 + 1) * 39373 % 1000000007) (.inl m2)
          have hw2 : (c1 * 48271 + 7919 * (c2 + 1)) % 2147483647 = w1 := by rw [← hw]; simp
          simp [ev_l_take, fb_l_take, op_mul_i, op_mod_i, op_fdiv_i, hn, hn2, ixN_ok, h, hl, hset, k3, mul1, hw2, m1, m3]
      obtain ⟨c1', w1, w2, e⟩ := key
      exact ⟨_, _, e, (hm _).1, (hm _).2, _, _, _, _, rfl, Int.le_refl _, w1, w2, nl, k4⟩
  · have h1 : 0 < c0 := by omega
    refine ⟨c0 % n, bagOb (c0 / n) c1 c2 cells, ?_, (hm c0).1, (hm c0).2, _, _, _, _, rfl, hd c0 k0, k1, k2, k3, k4⟩
    unfold bagOb
    simp [ev_l_take, fb_l_take, op_mul_i, op_mod_i, op_fdiv_i, hn, hn2, ixN_ok, h, h0, h1]
theorem cutG_map {α β : Type} (f : α → β) (l : List α) (lo hi : Option Int) : cutG (l.map f) lo hi = (cutG l lo hi).map f := by
  unfold cutG
  rw [List.length_map, List.map_take, List.map_drop]
theorem cutG_len {α : Type} (l : List α) (lo hi : Option Int) : (cutG l lo hi).length ≤ l.length := by
  unfold cutG
  rw [List.length_take, List.length_drop]
  omega
theorem lc_abs (x : Sl) (S : Sto) : ∀ ms : List Int, lcR (gN 1) tTrue (eCB absD (aCons (eVar 1) aNil)) [x, .no] (ms.map Dv.int) S = .ok ((ms.map fun m => if m < 0 then -m else m).map Dv.int) S
  | [] => rfl
  | m :: r => by
    simp [lcR, tTrue, lc_abs x S r]
theorem bag_ok (m : Nat) (S : Sto) (ns : List Int) (h : ns.length ≤ 63) : ∃ o, calls (m + 1) .l_bag S [.rol (ns.map .int)] = .ok (.hdl S.length) (S ++ [o]) ∧ BagOk o := by
  have hl : (List.map Dv.int ((cutG ns none (some 63)).map fun m => if m < 0 then -m else m)).length ≤ sizeLine := by
    rw [List.length_map, List.length_map]
    exact line_le _ (by have := cutG_len ns none (some 63); omega)
  refine ⟨bagOb 0 1234567891 0 ((cutG ns none (some 63)).map fun m => if m < 0 then -m else m), ?_, 0, 1234567891, 0, _, rfl, by decide, by decide, by decide, by decide, fun c hc => ?_⟩
  · unfold bagOb
    rw [List.map_map] at hl
    simp [ev_l_bag, fb_l_bag, cutG_map, lc_abs, kLcEnd_ok _ _ hl]
  · obtain ⟨m, _, rfl⟩ := List.mem_map.mp hc
    split <;> omega
theorem bag_at {o : Ob} (h : BagOk o) : BagAt [o] 0 := ⟨o, rfl, h⟩
theorem BagAt.lt {S : Sto} {b : Nat} (h : BagAt S b) : b < S.length := by obtain ⟨o, h, _⟩ := h; exact (List.getElem?_eq_some_iff.mp h).1
theorem BagAt.set {S : Sto} {b : Nat} {o : Ob} (h : BagAt S b) (ho : BagOk o) : BagAt (S.set b o) b := ⟨o, by rw [List.getElem?_set, if_pos rfl, if_pos h.lt], ho⟩
theorem BagAt.app {S : Sto} {b : Nat} {o : Ob} (h : BagAt S b) : BagAt (S ++ [o]) b := by
  obtain ⟨q, h1, h2⟩ := h
  exact ⟨q, by rw [List.getElem?_append_left (List.getElem?_eq_some_iff.mp h1).1]; exact h1, h2⟩
end DL
namespace DL
open PySem L2
def rootOf (p : List Nat) (i : Nat) : Nat := match p[i]? with
  | some q => if h : q < i then rootOf p q else i
  | none => i
termination_by i
def PW (p : List Nat) : Prop := ∀ i q : Nat, p[i]? = some q → q ≤ i
theorem root_step {p : List Nat} {i q : Nat} (h : p[i]? = some q) (hq : q < i) : rootOf p i = rootOf p q := by
  conv => lhs; unfold rootOf
  simp only [h, dif_pos hq]
theorem root_stop {p : List Nat} {i : Nat} (h : ∀ q, p[i]? = some q → ¬ q < i) : rootOf p i = i := by
  unfold rootOf
  cases e : p[i]? with
  | none => rfl
  | some q => simp only [dif_neg (h q e)]
theorem root_le (p : List Nat) : ∀ i, rootOf p i ≤ i := by
  intro i
  induction i using Nat.strongRecOn with
  | _ i ih =>
    cases e : p[i]? with
    | none => rw [root_stop (fun q h => by rw [e] at h; cases h)]; exact Nat.le_refl _
    | some q =>
      by_cases hq : q < i
      · rw [root_step e hq]; exact Nat.le_trans (ih q hq) (Nat.le_of_lt hq)
      · rw [root_stop (fun r h => by rw [e] at h; cases h; exact hq)]; exact Nat.le_refl _
theorem root_self {p : List Nat} {i : Nat} (h : p[i]? = some i) : rootOf p i = i := root_stop fun q e => by rw [h] at e; cases e; omega
theorem root_at {p : List Nat} (pw : PW p) : ∀ i, i < p.length → p[rootOf p i]? = some (rootOf p i) := by
  intro i
  induction i using Nat.strongRecOn with
  | _ i ih =>
    intro hi
    have e : p[i]? = some p[i] := List.getElem?_eq_getElem hi
    by_cases hq : p[i] < i
    · rw [root_step e hq]; exact ih _ hq (by omega)
    · have h2 := pw i _ e
      have h3 : p[i] = i := by omega
      rw [root_stop (fun r h => by rw [e] at h; cases h; exact hq)]
      rw [e, h3]
theorem root_lt {p : List Nat} {i : Nat} (hi : i < p.length) : rootOf p i < p.length := Nat.lt_of_le_of_lt (root_le p i) hi
theorem root_set {p : List Nat} {hi lo : Nat} (hl : lo < hi) (h1 : p[hi]? = some hi) (h2 : p[lo]? = some lo) : ∀ i, rootOf (p.set hi lo) i = if rootOf p i = hi then lo else rootOf p i := by
  have hlen : hi < p.length := (List.getElem?_eq_some_iff.mp h1).1
  have g1 : (p.set hi lo)[hi]? = some lo := by rw [List.getElem?_set, if_pos rfl, if_pos hlen]
  have g2 : ∀ i, i ≠ hi → (p.set hi lo)[i]? = p[i]? := fun i h => by rw [List.getElem?_set, if_neg (Ne.symm h)]
  have g3 : rootOf (p.set hi lo) lo = lo := root_self (by rw [g2 lo (by omega)]; exact h2)
  intro i
  induction i using Nat.strongRecOn with
  | _ i ih =>
    by_cases e : i = hi
    · subst e
      rw [root_step g1 hl, g3, root_self h1, if_pos rfl]
    · cases q : p[i]? with
      | none =>
        rw [root_stop (p := p.set hi lo) (fun r h => by rw [g2 i e, q] at h; cases h), root_stop (p := p) (fun r h => by rw [q] at h; cases h), if_neg e]
      | some r =>
        by_cases hr : r < i
        · rw [root_step (p := p.set hi lo) (by rw [g2 i e]; exact q) hr, root_step q hr]; exact ih r hr
        · rw [root_stop (p := p.set hi lo) (fun r' h => by rw [g2 i e, q] at h; cases h; exact hr), root_stop (p := p) (fun r' h => by rw [q] at h; cases h; exact hr), if_neg e]
def mrg (p : List Nat) (a b : Nat) : List Nat := if rootOf p a = rootOf p b then p else p.set (max (rootOf p a) (rootOf p b)) (min (rootOf p a) (rootOf p b))
section
variable {p : List Nat} {a b : Nat}
theorem mrg_len : (mrg p a b).length = p.length := by unfold mrg; split <;> simp
theorem mrg_tips (pw : PW p) (ha : a < p.length) (hb : b < p.length) : p[max (rootOf p a) (rootOf p b)]? = some (max (rootOf p a) (rootOf p b)) ∧ p[min (rootOf p a) (rootOf p b)]? = some (min (rootOf p a) (rootOf p b)) := by
  have h1 := root_at pw a ha
  have h2 := root_at pw b hb
  rcases Nat.le_total (rootOf p a) (rootOf p b) with h | h
  · rw [Nat.max_eq_right h, Nat.min_eq_left h]; exact ⟨h2, h1⟩
  · rw [Nat.max_eq_left h, Nat.min_eq_right h]; exact ⟨h1, h2⟩
theorem mrg_root (pw : PW p) (ha : a < p.length) (hb : b < p.length) (i : Nat) : rootOf (mrg p a b) i = if rootOf p i = max (rootOf p a) (rootOf p b) then min (rootOf p a) (rootOf p b) else rootOf p i := by
  unfold mrg
  obtain ⟨t1, t2⟩ := mrg_tips pw ha hb
  by_cases e : rootOf p a = rootOf p b
  · rw [if_pos e, e, Nat.max_self, Nat.min_self]
    split
    · rename_i h; exact h
    · rfl
  · rw [if_neg e]; exact root_set (by omega) t1 t2 i
theorem mrg_pw (pw : PW p) : PW (mrg p a b) := by
  unfold mrg
  split
  · exact pw
  · intro i q h
    rw [List.getElem?_set] at h
    split at h
    · split at h
      · cases h; omega
      · cases h
    · exact pw i q h
theorem mrg_same (pw : PW p) (ha : a < p.length) (hb : b < p.length) : rootOf (mrg p a b) a = rootOf (mrg p a b) b := by
  rw [mrg_root pw ha hb, mrg_root pw ha hb]
  split <;> split <;> omega
theorem mrg_mono (pw : PW p) (ha : a < p.length) (hb : b < p.length) {i j : Nat} (h : rootOf p i = rootOf p j) : rootOf (mrg p a b) i = rootOf (mrg p a b) j := by
  rw [mrg_root pw ha hb, mrg_root pw ha hb, h]
/-- m gives each thing its root's value -/
def Mod (m : Nat → Int) (p : List Nat) : Prop := ∀ i, i < p.length → m (rootOf p i) = m i
theorem mrg_mod {m : Nat → Int} (pw : PW p) (ha : a < p.length) (hb : b < p.length) (h : Mod m p) (e : m a = m b) : Mod m (mrg p a b) := by
  intro i hi
  rw [mrg_len] at hi
  rw [mrg_root pw ha hb]
  have h1 := h a ha
  have h2 := h b hb
  split
  · rename_i q
    rw [← h i hi, q]
    rcases Nat.le_total (rootOf p a) (rootOf p b) with z | z
    · rw [Nat.max_eq_right z, Nat.min_eq_left z]; omega
    · rw [Nat.max_eq_left z, Nat.min_eq_right z]; omega
  · exact h i hi
end
def nr (p : List Nat) : Nat := (List.range p.length).countP fun i => decide (p[i]? = some i)
theorem countP_lt {P Q : Nat → Bool} : ∀ {l : List Nat} (_ : ∀ x ∈ l, Q x = true → P x = true) {h : Nat} (_ : h ∈ l) (_ : P h = true) (_ : Q h = false), l.countP Q < l.countP P
  | x :: l, s, h, hm, hp, hq => by
    have s' : ∀ y ∈ l, Q y = true → P y = true := fun y hy => s y (List.mem_cons_of_mem _ hy)
    have le : l.countP Q ≤ l.countP P := List.countP_mono_left s'
    rw [List.countP_cons, List.countP_cons]
    rcases List.mem_cons.mp hm with rfl | hm
    · rw [hp, hq]; simp; omega
    · have ih := countP_lt s' hm hp hq
      cases hx : Q x with
      | true => rw [s x List.mem_cons_self hx]; simp; omega
      | false => cases P x <;> simp <;> omega
theorem nr_le (p : List Nat) : nr p ≤ p.length := by
  unfold nr
  exact Nat.le_trans List.countP_le_length (by simp)
theorem mrg_nr {p : List Nat} {a b : Nat} (pw : PW p) (ha : a < p.length) (hb : b < p.length) (h : rootOf p a ≠ rootOf p b) : nr (mrg p a b) < nr p := by
  obtain ⟨t1, t2⟩ := mrg_tips pw ha hb
  have hlen := (List.getElem?_eq_some_iff.mp t1).1
  unfold nr
  rw [mrg_len]
  have e : mrg p a b = p.set (max (rootOf p a) (rootOf p b)) (min (rootOf p a) (rootOf p b)) := by unfold mrg; rw [if_neg h]
  rw [e]
  refine countP_lt (h := max (rootOf p a) (rootOf p b)) (fun x _ hx => ?_) (List.mem_range.mpr hlen) (by simpa using t1) ?_
  · simp only [decide_eq_true_eq] at hx ⊢
    rw [List.getElem?_set] at hx
    split at hx
    · rename_i ex
      injection hx with hx
      omega
    · exact hx
  · simp only [decide_eq_false_iff_not]
    rw [List.getElem?_set, if_pos rfl, if_pos hlen]
    intro z
    injection z with z
    omega
abbrev Kn := Str × List Nat × Nat
abbrev Tb := List ((Str × List Nat) × Nat)
def lkT (t : Tb) (k : Str × List Nat) : Option Nat := (t.find? fun q => decide (q.1 = k)).map fun q => q.2
def keyT (p : List Nat) (g : Str) (as : List Nat) : Str × List Nat := (g, as.map (rootOf p))
def pass : List Kn → List Nat → Bool → Tb → List Nat × Bool
  | [], p, s, _ => (p, s)
  | (g, as, v) :: r, p, s, t => match lkT t (keyT p g as) with
    | some w => pass r (mrg p w v) (s && decide (rootOf p w = rootOf p v)) t
    | none => pass r p s (t ++ [(keyT p g as, v)])
def KnIn (n : Nat) (r : List Kn) : Prop := ∀ q ∈ r, (∀ x ∈ q.2.1, x < n) ∧ q.2.2 < n
def TbIn (n : Nat) (t : Tb) : Prop := ∀ q ∈ t, q.2 < n
theorem lkT_mem {t : Tb} {k : Str × List Nat} {w : Nat} (h : lkT t k = some w) : (k, w) ∈ t := by
  unfold lkT at h
  cases e : t.find? (fun q => decide (q.1 = k)) with
  | none => rw [e] at h; cases h
  | some q =>
    rw [e] at h
    cases h
    have h1 := List.find?_some e
    have h2 := List.mem_of_find?_eq_some e
    simp only [decide_eq_true_eq] at h1
    rw [← h1]; exact h2
theorem lkT_app {t : Tb} {k : Str × List Nat} {w : Nat} (h : lkT t k = some w) (u : Tb) : lkT (t ++ u) k = some w := by
  unfold lkT at h ⊢
  rw [List.find?_append]
  cases e : t.find? (fun q => decide (q.1 = k)) with
  | none => rw [e] at h; cases h
  | some q => rw [e] at h; exact h
theorem lkT_new {t : Tb} {k : Str × List Nat} (h : lkT t k = none) (v : Nat) : lkT (t ++ [(k, v)]) k = some v := by
  unfold lkT at h ⊢
  rw [List.find?_append]
  cases e : t.find? (fun q => decide (q.1 = k)) with
  | none => simp
  | some q => rw [e] at h; cases h
theorem pass_inv : ∀ (r : List Kn) {p : List Nat} {s : Bool} {t : Tb}, PW p → KnIn p.length r → TbIn p.length t →
    (pass r p s t).1.length = p.length ∧ PW (pass r p s t).1 ∧ (∀ i j, rootOf p i = rootOf p j → rootOf (pass r p s t).1 i = rootOf (pass r p s t).1 j) ∧
    (((pass r p s t).2 = s ∧ (pass r p s t).1 = p) ∨ ((pass r p s t).2 = false ∧ nr (pass r p s t).1 < nr p))
  | [], p, s, t, pw, _, _ => ⟨rfl, pw, fun _ _ h => h, .inl ⟨rfl, rfl⟩⟩
  | (g, as, v) :: r, p, s, t, pw, hk, ht => by
    have hk2 : KnIn p.length r := fun q hq => hk q (List.mem_cons_of_mem _ hq)
    have hv : v < p.length := (hk _ List.mem_cons_self).2
    unfold pass
    cases e : lkT t (keyT p g as) with
    | none =>
      simp only
      refine pass_inv r pw hk2 fun q hq => ?_
      rcases List.mem_append.mp hq with hq | hq
      · exact ht q hq
      · simp only [List.mem_singleton] at hq; subst hq; exact hv
    | some w =>
      simp only
      have hw : w < p.length := ht _ (lkT_mem e)
      have hl : (mrg p w v).length = p.length := mrg_len
      obtain ⟨i1, i2, i3, i4⟩ := pass_inv r (p := mrg p w v) (s := s && decide (rootOf p w = rootOf p v)) (t := t) (mrg_pw pw) (by rw [hl]; exact hk2) (by rw [hl]; exact ht)
      refine ⟨i1.trans hl, i2, fun i j h => i3 i j (mrg_mono pw hw hv h), ?_⟩
      by_cases h : rootOf p w = rootOf p v
      · have hm : mrg p w v = p := by unfold mrg; rw [if_pos h]
        rw [hm] at i4 ⊢
        simp only [h, decide_true, Bool.and_true] at i4 ⊢
        exact i4
      · have hn := mrg_nr pw hw hv h
        simp only [h, decide_false, Bool.and_false] at i4 ⊢
        rcases i4 with ⟨f1, f2⟩ | ⟨f1, f2⟩
        · exact .inr ⟨f1, by rw [f2]; exact hn⟩
        · exact .inr ⟨f1, by omega⟩
/-- rows that hold in m -/
def RowsHold (m : Nat → Int) (K : List Kn) : Prop := ∀ q ∈ K, ∀ q' ∈ K, q.1 = q'.1 → q.2.1.map m = q'.2.1.map m → m q.2.2 = m q'.2.2
theorem pass_mod {m : Nat → Int} {K : List Kn} (hR : RowsHold m K) : ∀ (r : List Kn) {p : List Nat} {s : Bool} {t : Tb}, (∀ q ∈ r, q ∈ K) → PW p → KnIn p.length r → TbIn p.length t → Mod m p →
    (∀ q ∈ t, ∃ as, (q.1.1, as, q.2) ∈ K ∧ q.1.2.map m = as.map m) → Mod m (pass r p s t).1
  | [], p, s, t, _, _, _, _, hm, _ => hm
  | (g, as, v) :: r, p, s, t, hs, pw, hk, ht, hm, hT => by
    have hk2 : KnIn p.length r := fun q hq => hk q (List.mem_cons_of_mem _ hq)
    have hv : v < p.length := (hk _ List.mem_cons_self).2
    have ha : ∀ x ∈ as, x < p.length := (hk _ List.mem_cons_self).1
    have hs2 : ∀ q ∈ r, q ∈ K := fun q hq => hs q (List.mem_cons_of_mem _ hq)
    have hin : (g, as, v) ∈ K := hs _ List.mem_cons_self
    have hkey : (keyT p g as).2.map m = as.map m := by
      unfold keyT
      rw [List.map_map]
      exact List.map_congr_left fun x hx => hm x (ha x hx)
    unfold pass
    cases e : lkT t (keyT p g as) with
    | none =>
      simp only
      refine pass_mod hR r hs2 pw hk2 (fun q hq => ?_) hm fun q hq => ?_
      · rcases List.mem_append.mp hq with hq | hq
        · exact ht q hq
        · simp only [List.mem_singleton] at hq; subst hq; exact hv
      · rcases List.mem_append.mp hq with hq | hq
        · exact hT q hq
        · simp only [List.mem_singleton] at hq; subst hq; exact ⟨as, hin, hkey⟩
    | some w =>
      simp only
      have hmem := lkT_mem e
      have hw : w < p.length := ht _ hmem
      have hl : (mrg p w v).length = p.length := mrg_len
      obtain ⟨as', h1, h2⟩ := hT _ hmem
      have hwv : m w = m v := hR _ h1 _ hin rfl (h2.symm.trans hkey)
      exact pass_mod hR r hs2 (mrg_pw pw) (by rw [hl]; exact hk2) (by rw [hl]; exact ht) (mrg_mod pw hw hv hm hwv) hT
def Closed (K : List Kn) (p : List Nat) : Prop := ∀ q ∈ K, ∀ q' ∈ K, q.1 = q'.1 → q.2.1.map (rootOf p) = q'.2.1.map (rootOf p) → rootOf p q.2.2 = rootOf p q'.2.2
theorem pass_closed {p : List Nat} (pw : PW p) : ∀ (r : List Kn) {t : Tb} {done : List Kn}, KnIn p.length r → TbIn p.length t → (∀ q ∈ done, ∃ w, lkT t (keyT p q.1 q.2.1) = some w ∧ rootOf p w = rootOf p q.2.2) → (pass r p true t).2 = true → Closed (done ++ r) p
  | [], t, done, _, _, hd, _ => by
    rw [List.append_nil]
    intro q hq q' hq' h1 h2
    obtain ⟨w, e1, e2⟩ := hd q hq
    obtain ⟨w', e3, e4⟩ := hd q' hq'
    unfold keyT at e1 e3
    rw [h1, h2, e3] at e1
    cases e1
    omega
  | (g, as, v) :: r, t, done, hk, ht, hd, hf => by
    have hk2 : KnIn p.length r := fun q hq => hk q (List.mem_cons_of_mem _ hq)
    have hv : v < p.length := (hk _ List.mem_cons_self).2
    have ea : done ++ (g, as, v) :: r = (done ++ [(g, as, v)]) ++ r := by simp
    rw [ea]
    unfold pass at hf
    cases e : lkT t (keyT p g as) with
    | none =>
      rw [e] at hf
      refine pass_closed pw r (t := t ++ [(keyT p g as, v)]) hk2 (fun q hq => ?_) (fun q hq => ?_) hf
      · rcases List.mem_append.mp hq with hq | hq
        · exact ht q hq
        · simp only [List.mem_singleton] at hq; subst hq; exact hv
      · rcases List.mem_append.mp hq with hq | hq
        · obtain ⟨w, e1, e2⟩ := hd q hq
          exact ⟨w, lkT_app e1 _, e2⟩
        · simp only [List.mem_singleton] at hq; subst hq; exact ⟨v, lkT_new e v, rfl⟩
    | some w =>
      rw [e] at hf
      simp only at hf
      have hw : w < p.length := ht _ (lkT_mem e)
      by_cases h : rootOf p w = rootOf p v
      · have hm : mrg p w v = p := by unfold mrg; rw [if_pos h]
        rw [hm] at hf
        simp only [h, decide_true, Bool.and_true] at hf
        refine pass_closed pw r (t := t) hk2 ht (fun q hq => ?_) hf
        rcases List.mem_append.mp hq with hq | hq
        · exact hd q hq
        · simp only [List.mem_singleton] at hq; subst hq; exact ⟨w, e, h⟩
      · simp only [h, decide_false, Bool.and_false] at hf
        have hl : (mrg p w v).length = p.length := mrg_len
        obtain ⟨_, _, _, i4⟩ := pass_inv r (p := mrg p w v) (s := false) (t := t) (mrg_pw pw) (by rw [hl]; exact hk2) (by rw [hl]; exact ht)
        rcases i4 with ⟨f, _⟩ | ⟨f, _⟩ <;> rw [f] at hf <;> cases hf
def settleN : Nat → List Kn → List Nat → Bool → List Nat × Bool
  | 0, _, p, s => (p, s)
  | f + 1, K, p, s => if s = true then (p, s) else settleN f K (pass K p true []).1 (pass K p true []).2
theorem tb_nil (n : Nat) : TbIn n [] := fun _ h => nomatch h
theorem settle_inv (K : List Kn) : ∀ (f : Nat) {p : List Nat} {s : Bool}, PW p → KnIn p.length K → (s = true → Closed K p) →
    (settleN f K p s).1.length = p.length ∧ PW (settleN f K p s).1 ∧ (∀ i j, rootOf p i = rootOf p j → rootOf (settleN f K p s).1 i = rootOf (settleN f K p s).1 j) ∧ ((settleN f K p s).2 = true → Closed K (settleN f K p s).1) ∧
    (∀ m, RowsHold m K → Mod m p → Mod m (settleN f K p s).1)
  | 0, p, s, pw, _, hc => ⟨rfl, pw, fun _ _ h => h, hc, fun _ _ h => h⟩
  | f + 1, p, s, pw, hk, hc => by
    unfold settleN
    by_cases hs : s = true
    · rw [if_pos hs]; exact ⟨rfl, pw, fun _ _ h => h, hc, fun _ _ h => h⟩
    · rw [if_neg hs]
      obtain ⟨i1, i2, i3, i4⟩ := pass_inv K (p := p) (s := true) (t := []) pw hk (tb_nil _)
      have hcl : (pass K p true []).2 = true → Closed K (pass K p true []).1 := fun h => by
        have h1 := pass_closed (done := []) pw K hk (tb_nil _) (fun _ h => nomatch h) h
        rcases i4 with ⟨_, e⟩ | ⟨e, _⟩
        · rw [e]; simpa using h1
        · rw [e] at h; cases h
      obtain ⟨j1, j2, j3, j4, j5⟩ := settle_inv K f (p := (pass K p true []).1) (s := (pass K p true []).2) i2 (by rw [i1]; exact hk) hcl
      exact ⟨j1.trans i1, j2, fun i j h => j3 i j (i3 i j h), j4, fun m hR hm => j5 m hR (pass_mod hR K (fun _ h => h) pw hk (tb_nil _) hm fun _ h => nomatch h)⟩
theorem settle_end (K : List Kn) : ∀ (f : Nat) {p : List Nat} {s : Bool}, PW p → KnIn p.length K → nr p ≤ f → (settleN (f + 1) K p s).2 = true
  | f, p, s, pw, hk, hf => by
    unfold settleN
    by_cases hs : s = true
    · rw [if_pos hs]; exact hs
    · rw [if_neg hs]
      obtain ⟨i1, i2, i3, i4⟩ := pass_inv K (p := p) (s := true) (t := []) pw hk (tb_nil _)
      rcases i4 with ⟨e, _⟩ | ⟨e, h⟩
      · cases f with
        | zero => exact e
        | succ f => unfold settleN; rw [if_pos e]; exact e
      · cases f with
        | zero => omega
        | succ f => exact settle_end K f i2 (by rw [i1]; exact hk) (by omega)
end DL
namespace DL
open PySem L2
inductive Fact where
  | join (a b : Nat) | row (g : Str) (as : List Nat) (v : Nat) | bar (ps : List (Nat × Nat))
def Fact.In (n : Nat) : Fact → Prop
  | .join a b => a < n ∧ b < n
  | .row _ as v => (∀ x ∈ as, x < n) ∧ v < n
  | .bar ps => ∀ q ∈ ps, q.1 < n ∧ q.2 < n
def rowsOf : List Fact → List Kn
  | [] => []
  | .row g as v :: F => (g, as, v) :: rowsOf F
  | _ :: F => rowsOf F
def barsOf : List Fact → List (List (Nat × Nat))
  | [] => []
  | .bar ps :: F => ps :: barsOf F
  | _ :: F => barsOf F
theorem rowsOf_app : ∀ F G, rowsOf (F ++ G) = rowsOf F ++ rowsOf G
  | [], _ => rfl
  | .row g as v :: F, G => by simp [rowsOf, rowsOf_app F G]
  | .join a b :: F, G => by simp [rowsOf, rowsOf_app F G]
  | .bar ps :: F, G => by simp [rowsOf, rowsOf_app F G]
theorem barsOf_app : ∀ F G, barsOf (F ++ G) = barsOf F ++ barsOf G
  | [], _ => rfl
  | .row g as v :: F, G => by simp [barsOf, barsOf_app F G]
  | .join a b :: F, G => by simp [barsOf, barsOf_app F G]
  | .bar ps :: F, G => by simp [barsOf, barsOf_app F G]
theorem mem_rowsOf {q : Kn} : ∀ {F : List Fact}, q ∈ rowsOf F ↔ Fact.row q.1 q.2.1 q.2.2 ∈ F
  | [] => by simp [rowsOf]
  | .row g as v :: F => by
    simp only [rowsOf, List.mem_cons, mem_rowsOf (F := F), Fact.row.injEq]
    constructor
    · rintro (rfl | h)
      · exact .inl ⟨rfl, rfl, rfl⟩
      · exact .inr h
    · rintro (⟨h1, h2, h3⟩ | h)
      · exact .inl (Prod.ext h1 (Prod.ext h2 h3))
      · exact .inr h
  | .join a b :: F => by simp [rowsOf, mem_rowsOf (F := F)]
  | .bar ps :: F => by simp [rowsOf, mem_rowsOf (F := F)]
theorem mem_barsOf {ps : List (Nat × Nat)} : ∀ {F : List Fact}, ps ∈ barsOf F ↔ Fact.bar ps ∈ F
  | [] => by simp [barsOf]
  | .bar qs :: F => by simp [barsOf, mem_barsOf (F := F)]
  | .join a b :: F => by simp [barsOf, mem_barsOf (F := F)]
  | .row g as v :: F => by simp [barsOf, mem_barsOf (F := F)]
def FIn (n : Nat) (F : List Fact) : Prop := ∀ f ∈ F, f.In n
/-- joins and rows hold -/
structure ModF (m : Nat → Int) (F : List Fact) : Prop where
  j : ∀ a b, Fact.join a b ∈ F → m a = m b
  r : RowsHold m (rowsOf F)
def BarsHold (m : Nat → Int) (B : List (List (Nat × Nat))) : Prop := ∀ ps ∈ B, ∃ q ∈ ps, m q.1 ≠ m q.2
structure Full (m : Nat → Int) (F : List Fact) (u : List Nat) : Prop where
  f : ModF m F
  u : (u.map m).Nodup
  b : BarsHold m (barsOf F)
/-- the same samenesses -/
def Sm (n : Nat) (m m' : Nat → Int) : Prop := ∀ i j, i < n → j < n → (m i = m j ↔ m' i = m' j)
theorem Sm.maps {n : Nat} {m m' : Nat → Int} (h : Sm n m m') : ∀ {as bs : List Nat}, (∀ x ∈ as, x < n) → (∀ x ∈ bs, x < n) → as.map m = bs.map m → as.map m' = bs.map m'
  | [], [], _, _, _ => rfl
  | [], _ :: _, _, _, e => by simp at e
  | _ :: _, [], _, _, e => by simp at e
  | a :: as, b :: bs, ha, hb, e => by
    simp only [List.map_cons, List.cons.injEq] at e ⊢
    exact ⟨(h a b (ha a List.mem_cons_self) (hb b List.mem_cons_self)).mp e.1, Sm.maps h (fun x hx => ha x (List.mem_cons_of_mem _ hx)) (fun x hx => hb x (List.mem_cons_of_mem _ hx)) e.2⟩
theorem Sm.symm {n : Nat} {m m' : Nat → Int} (h : Sm n m m') : Sm n m' m := fun i j hi hj => (h i j hi hj).symm
theorem Full.sm {n : Nat} {m m' : Nat → Int} {F : List Fact} {u : List Nat} (h : Sm n m m') (hF : FIn n F) (hu : ∀ x ∈ u, x < n) (f : Full m F u) : Full m' F u := by
  refine ⟨⟨fun a b hab => ?_, fun q hq q' hq' e1 e2 => ?_⟩, ?_, fun ps hps => ?_⟩
  · obtain ⟨ha, hb⟩ := hF _ hab
    exact (h a b ha hb).mp (f.f.j a b hab)
  · obtain ⟨i1, i2⟩ := hF _ (mem_rowsOf.mp hq)
    obtain ⟨j1, j2⟩ := hF _ (mem_rowsOf.mp hq')
    exact (h _ _ i2 j2).mp (f.f.r q hq q' hq' e1 (h.symm.maps i1 j1 e2))
  · have hn := f.u
    clear f hF
    induction u with
    | nil => exact List.nodup_nil
    | cons x u ih =>
      simp only [List.map_cons, List.nodup_cons, List.mem_map, not_exists, not_and] at hn ⊢
      exact ⟨fun y hy e => hn.1 y hy ((h y x (hu y (List.mem_cons_of_mem _ hy)) (hu x List.mem_cons_self)).mpr e), ih (fun y hy => hu y (List.mem_cons_of_mem _ hy)) hn.2⟩
  · obtain ⟨q, hq, hne⟩ := f.b ps hps
    obtain ⟨i1, i2⟩ := hF _ (mem_barsOf.mp hps) q hq
    exact ⟨q, hq, fun e => hne ((h _ _ i1 i2).mpr e)⟩
structure CS where
  par : List Nat
  unl : List Nat
  kno : List Kn
  bar : List (List (Nat × Nat))
  told : Nat
  set : Bool
/-- what a Closure of n things, told F, knows -/
structure CI (n : Nat) (F : List Fact) (C : CS) : Prop where
  len : C.par.length = n
  pw : PW C.par
  kno : C.kno = rowsOf F
  bar : C.bar = barsOf F
  told : C.told = F.length
  fin : FIn n F
  uin : ∀ x ∈ C.unl, x < n
  join : ∀ a b, Fact.join a b ∈ F → rootOf C.par a = rootOf C.par b
  sound : ∀ m, ModF m F → Mod m C.par
  closed : C.set = true → Closed C.kno C.par
theorem CI.kin {n : Nat} {F : List Fact} {C : CS} (h : CI n F C) : KnIn n C.kno := fun q hq => by
  rw [h.kno] at hq
  exact h.fin _ (mem_rowsOf.mp hq)
def C0 (n : Nat) (u : List Nat) : CS := ⟨List.range n, u, [], [], 0, true⟩
theorem ci_new {n : Nat} {u : List Nat} (hu : ∀ x ∈ u, x < n) : CI n [] (C0 n u) := by
  have hr : ∀ i, i < n → rootOf (List.range n) i = i := fun i hi => root_self (by rw [List.getElem?_range hi])
  refine ⟨by simp [C0], fun i q h => ?_, rfl, rfl, rfl, (fun _ h => nomatch h), hu, (fun _ _ h => nomatch h), fun m _ i hi => ?_, fun _ => (fun _ h => nomatch h)⟩
  · have hlt := (List.getElem?_eq_some_iff.mp h).1
    simp only [C0, List.length_range] at hlt
    simp only [C0] at h
    rw [List.getElem?_range hlt] at h
    cases h
    exact Nat.le_refl _
  · simp only [C0, List.length_range] at hi ⊢
    rw [hr i hi]
/-- settled -/
def stl (f : Nat) (C : CS) : CS := { C with par := (settleN f C.kno C.par C.set).1, set := (settleN f C.kno C.par C.set).2 }
theorem ci_settle {n : Nat} {F : List Fact} {C : CS} (h : CI n F C) (f : Nat) : CI n F (stl f C) := by
  obtain ⟨i1, i2, i3, i4, i5⟩ := settle_inv C.kno f h.pw (by rw [h.len]; exact h.kin) h.closed
  exact ⟨i1.trans h.len, i2, h.kno, h.bar, h.told, h.fin, h.uin, fun a b hab => i3 _ _ (h.join a b hab), fun m hm => i5 m (by rw [h.kno]; exact hm.r) (h.sound m hm), i4⟩
theorem stl_set {n : Nat} {F : List Fact} {C : CS} (h : CI n F C) {f : Nat} (hf : n ≤ f) : (stl (f + 1) C).set = true :=
  settle_end C.kno f h.pw (by rw [h.len]; exact h.kin) (by have := nr_le C.par; rw [h.len] at this; omega)
theorem stl_id {C : CS} (h : C.set = true) : ∀ f, stl f C = C
  | 0 => rfl
  | f + 1 => by
    unfold stl settleN
    rw [if_pos h]
/-- a join told -/
def tJ (C : CS) (a b : Nat) : CS := { C with par := mrg C.par a b, told := C.told + 1, set := C.set && decide (rootOf C.par a = rootOf C.par b) }
theorem ci_join {n : Nat} {F : List Fact} {C : CS} (h : CI n F C) {a b : Nat} (ha : a < n) (hb : b < n) : CI n (F ++ [.join a b]) (tJ C a b) := by
  have la : a < C.par.length := by rw [h.len]; exact ha
  have lb : b < C.par.length := by rw [h.len]; exact hb
  refine ⟨mrg_len.trans h.len, mrg_pw h.pw, ?_, ?_, by simp [tJ, h.told], fun f hf => ?_, h.uin, fun x y hxy => ?_, fun m hm => ?_, fun hs => ?_⟩
  · show C.kno = _; rw [rowsOf_app, h.kno]; simp [rowsOf]
  · show C.bar = _; rw [barsOf_app, h.bar]; simp [barsOf]
  · rcases List.mem_append.mp hf with hf | hf
    · exact h.fin f hf
    · simp only [List.mem_singleton] at hf; subst hf; exact ⟨ha, hb⟩
  · rcases List.mem_append.mp hxy with hf | hf
    · exact mrg_mono h.pw la lb (h.join x y hf)
    · simp only [List.mem_singleton] at hf; cases hf; exact mrg_same h.pw la lb
  · have hm' : ModF m F := ⟨fun x y hxy => hm.j x y (List.mem_append_left _ hxy), by have := hm.r; rw [rowsOf_app] at this; simpa [rowsOf] using this⟩
    exact mrg_mod h.pw la lb (h.sound m hm') (hm.j a b (by simp))
  · simp only [tJ, Bool.and_eq_true, decide_eq_true_eq] at hs
    have e : mrg C.par a b = C.par := by unfold mrg; rw [if_pos hs.2]
    show Closed C.kno (mrg C.par a b)
    rw [e]; exact h.closed hs.1
def tR (C : CS) (g : Str) (as : List Nat) (v : Nat) : CS := { C with kno := C.kno ++ [(g, as, v)], told := C.told + 1, set := false }
theorem ci_row {n : Nat} {F : List Fact} {C : CS} (h : CI n F C) {g : Str} {as : List Nat} {v : Nat} (ha : ∀ x ∈ as, x < n) (hv : v < n) : CI n (F ++ [.row g as v]) (tR C g as v) := by
  refine ⟨h.len, h.pw, ?_, ?_, by simp [tR, h.told], fun f hf => ?_, h.uin, fun x y hxy => ?_, fun m hm => ?_, fun hs => nomatch hs⟩
  · show C.kno ++ _ = _; rw [rowsOf_app, h.kno]; simp [rowsOf]
  · show C.bar = _; rw [barsOf_app, h.bar]; simp [barsOf]
  · rcases List.mem_append.mp hf with hf | hf
    · exact h.fin f hf
    · simp only [List.mem_singleton] at hf; subst hf; exact ⟨ha, hv⟩
  · rcases List.mem_append.mp hxy with hf | hf
    · exact h.join x y hf
    · simp at hf
  · have hr := hm.r
    rw [rowsOf_app] at hr
    exact h.sound m ⟨fun x y hxy => hm.j x y (List.mem_append_left _ hxy), fun q hq q' hq' => hr q (List.mem_append_left _ hq) q' (List.mem_append_left _ hq')⟩
def tB (C : CS) (ps : List (Nat × Nat)) : CS := { C with bar := C.bar ++ [ps], told := C.told + 1 }
theorem ci_bar {n : Nat} {F : List Fact} {C : CS} (h : CI n F C) {ps : List (Nat × Nat)} (hp : ∀ q ∈ ps, q.1 < n ∧ q.2 < n) : CI n (F ++ [.bar ps]) (tB C ps) := by
  refine ⟨h.len, h.pw, ?_, ?_, by simp [tB, h.told], fun f hf => ?_, h.uin, fun x y hxy => ?_, fun m hm => ?_, h.closed⟩
  · show C.kno = _; rw [rowsOf_app, h.kno]; simp [rowsOf]
  · show C.bar ++ _ = _; rw [barsOf_app, h.bar]; simp [barsOf]
  · rcases List.mem_append.mp hf with hf | hf
    · exact h.fin f hf
    · simp only [List.mem_singleton] at hf; subst hf; exact hp
  · rcases List.mem_append.mp hxy with hf | hf
    · exact h.join x y hf
    · simp at hf
  · have hr := hm.r
    rw [rowsOf_app] at hr
    exact h.sound m ⟨fun x y hxy => hm.j x y (List.mem_append_left _ hxy), fun q hq q' hq' => hr q (List.mem_append_left _ hq) q' (List.mem_append_left _ hq')⟩
/-- is there a model -/
def difB (p : List Nat) (ps : List (Nat × Nat)) : Bool := ps.any fun q => decide (rootOf p q.1 ≠ rootOf p q.2)
def stB (C : CS) : Bool := decide ((C.unl.map (rootOf C.par)).Nodup) && C.bar.all (difB C.par)
theorem map_cast (p : List Nat) : ∀ {as bs : List Nat}, as.map (fun i => ((rootOf p i : Nat) : Int)) = bs.map (fun i => ((rootOf p i : Nat) : Int)) → as.map (rootOf p) = bs.map (rootOf p)
  | [], [], _ => rfl
  | [], _ :: _, h => by simp at h
  | _ :: _, [], h => by simp at h
  | a :: as, b :: bs, h => by
    simp only [List.map_cons, List.cons.injEq] at h ⊢
    exact ⟨by have := h.1; omega, map_cast p h.2⟩
theorem nodup_of_nodup_map {α β : Type} (f : α → β) : ∀ {l : List α}, (l.map f).Nodup → l.Nodup
  | [], _ => List.nodup_nil
  | x :: l, h => by
    simp only [List.map_cons, List.nodup_cons, List.mem_map, not_exists, not_and] at h ⊢
    exact ⟨fun hx => h.1 x hx rfl, nodup_of_nodup_map f h.2⟩
end DL
namespace DL
open PySem L2
theorem whR_go {t : DT} {s : DS} {n : Nat} {e : Env} {S S' : Sto} {b : Bool} (h : t e S = .ok b S') : whR t s (n + 1) e S = whK s (whR t s n) e b S' := by
  show sBind t (whK s (whR t s n)) e S = _
  unfold sBind; rw [h]
theorem whK_go {s : DS} {g : Env → Sto → Out} {e e' : Env} {S S' : Sto} (h : s e S = .nx e' S') : whK s g e true S = g e' S' := by
  unfold whK; simp only [if_true, h]
theorem whK_no {s : DS} {g : Env → Sto → Out} {e : Env} {S : Sto} : whK s g e false S = .nx e S := rfl
theorem kMeth_hdl {c m : Str} {dl : List Dv} {g : DF} {fa : DA} {e : Env} {S : Sto} {k : Nat} {fs : List (Str × Dv)} (h : S[k]? = some (.ins c fs)) (h2 : (fs.lookup m).isNone = true) : kMeth c m dl g fa e (.hdl k) S = bnd (fa e S) (kMe2 dl g (.hdl k)) := by
  unfold kMeth insOf
  simp only [h, h2, and_self, if_true]; rfl
theorem fldH_ok {c f : Str} {fo fv : DE} {e : Env} {S S1 S2 S3 : Sto} {v o : Dv} (h1 : fv e S = .ok v S1) (h2 : fo e S1 = .ok o S2) (h3 : setF c f S2 o v = some S3) : sFldH c f fo fv e S = .nx e S3 := by
  unfold sFldH sBind
  simp only [h1, h2, h3]
theorem setF_ok {c f : Str} {S : Sto} {k : Nat} {v : Dv} {fs : List (Str × Dv)} (h : S[k]? = some (.ins c fs)) (hl : fs.length < 1000) : setF c f S (.hdl k) v = some (S.set k (.ins c (putFD f v fs))) := by
  unfold setF; simp only [h, hl, and_self, if_true]
theorem augF_ok {op : Dv → Dv → Option Dv} {c f : Str} {fo fv : DE} {e : Env} {S S1 S2 : Sto} {k : Nat} {x y z : Dv} {fs : List (Str × Dv)} (h1 : fo e S = .ok (.hdl k) S1) (h2 : S1[k]? = some (.ins c fs)) (h3 : fs.lookup f = some x) (h4 : fv e S1 = .ok y S2)
    (h5 : op x y = some z) (h6 : S2[k]? = some (.ins c fs)) (hl : fs.length < 1000) : sAugF op c f fo fv e S = .nx e (S2.set k (.ins c (putFD f z fs))) := by
  unfold sAugF sBind
  simp only [h1, kAugF, h2, if_true, h3]
  unfold sBind
  simp only [h4, augF, h5, setF_ok h6 hl]
def nsD (l : List Nat) : List Dv := l.map fun (i : Nat) => Dv.int (i : Int)
def rwD (q : Kn) : Dv := .tup [.str q.1, .tup (nsD q.2.1), .int (q.2.2 : Int)]
def pqD (q : Nat × Nat) : Dv := .tup [.int (q.1 : Int), .int (q.2 : Int)]
def brD (ps : List (Nat × Nat)) : Dv := .tup (ps.map pqD)
def fsC (p k b : Nat) (C : CS) : List (Str × Dv) := [("parents", .hdl p), ("unlike", .lst (nsD C.unl)), ("known", .hdl k), ("bars", .hdl b), ("told", .int (C.told : Int)), ("settled", .bl C.set)]
def insC (p k b : Nat) (C : CS) : Ob := .ins "Closure" (fsC p k b C)
structure CA where
  c : Nat
  p : Nat
  k : Nat
  b : Nat
def CA.ids (A : CA) : List Nat := [A.c, A.p, A.k, A.b]
structure CloAt (S : Sto) (A : CA) (C : CS) : Prop where
  c : S[A.c]? = some (insC A.p A.k A.b C)
  p : S[A.p]? = some (.lst (nsD C.par))
  k : S[A.k]? = some (.lst (C.kno.map rwD))
  b : S[A.b]? = some (.lst (C.bar.map brD))
  cp : A.c ≠ A.p
  ck : A.c ≠ A.k
  cb : A.c ≠ A.b
  pk : A.p ≠ A.k
  pb : A.p ≠ A.b
  kb : A.k ≠ A.b
/-- the store changed at X alone, and longer perhaps -/
structure Off (X : List Nat) (S S' : Sto) : Prop where
  len : S.length ≤ S'.length
  at_ : ∀ i, i < S.length → i ∉ X → S'[i]? = S[i]?
theorem Off.refl (X : List Nat) (S : Sto) : Off X S S := ⟨Nat.le_refl _, fun _ _ _ => rfl⟩
theorem Off.trans {X : List Nat} {S S' S'' : Sto} (a : Off X S S') (b : Off X S' S'') : Off X S S'' := ⟨Nat.le_trans a.len b.len, fun i h n => (b.at_ i (Nat.lt_of_lt_of_le h a.len) n).trans (a.at_ i h n)⟩
theorem Off.mono {X Y : List Nat} {S S' : Sto} (a : Off X S S') (h : ∀ i ∈ X, i ∈ Y) : Off Y S S' := ⟨a.len, fun i hi n => a.at_ i hi fun z => n (h i z)⟩
theorem Off.set {X : List Nat} {S : Sto} {k : Nat} {o : Ob} (h : k ∈ X) : Off X S (S.set k o) := ⟨by simp, fun i hi n => by rw [List.getElem?_set, if_neg (fun e => n (by rw [← e]; exact h))]⟩
theorem Off.app (X : List Nat) (S G : Sto) : Off X S (S ++ G) := ⟨by simp, fun i hi n => List.getElem?_append_left hi⟩
theorem Off.get {X : List Nat} {S S' : Sto} (a : Off X S S') {i : Nat} {o : Ob} (h : S[i]? = some o) (n : i ∉ X) : S'[i]? = some o := by rw [a.at_ i (List.getElem?_eq_some_iff.mp h).1 n, h]
theorem get_set_ne {S : Sto} {i j : Nat} {o : Ob} (h : i ≠ j) : (S.set i o)[j]? = S[j]? := by rw [List.getElem?_set, if_neg h]
theorem get_set_eq {S : Sto} {i : Nat} {o x : Ob} (h : S[i]? = some x) : (S.set i o)[i]? = some o := by rw [List.getElem?_set, if_pos rfl, if_pos (List.getElem?_eq_some_iff.mp h).1]
theorem CloAt.off {S S' : Sto} {A : CA} {C : CS} {X : List Nat} (h : CloAt S A C) (o : Off X S S') (n : ∀ i ∈ A.ids, i ∉ X) : CloAt S' A C :=
  ⟨o.get h.c (n _ (by simp [CA.ids])), o.get h.p (n _ (by simp [CA.ids])), o.get h.k (n _ (by simp [CA.ids])), o.get h.b (n _ (by simp [CA.ids])), h.cp, h.ck, h.cb, h.pk, h.pb, h.kb⟩
theorem CloAt.app {S : Sto} {A : CA} {C : CS} (h : CloAt S A C) (G : Sto) : CloAt (S ++ G) A C := h.off (X := []) (Off.app [] S G) fun _ _ => List.not_mem_nil
theorem CloAt.setP {S : Sto} {A : CA} {C : CS} (h : CloAt S A C) (q : List Nat) : CloAt (S.set A.p (.lst (nsD q))) A { C with par := q } :=
  ⟨by rw [get_set_ne h.cp.symm]; exact h.c, get_set_eq h.p, by rw [get_set_ne h.pk]; exact h.k, by rw [get_set_ne h.pb]; exact h.b, h.cp, h.ck, h.cb, h.pk, h.pb, h.kb⟩
theorem CloAt.setS {S : Sto} {A : CA} {C : CS} (h : CloAt S A C) (s : Bool) : CloAt (S.set A.c (insC A.p A.k A.b { C with set := s })) A { C with set := s } :=
  ⟨get_set_eq h.c, by rw [get_set_ne h.cp]; exact h.p, by rw [get_set_ne h.ck]; exact h.k, by rw [get_set_ne h.cb]; exact h.b, h.cp, h.ck, h.cb, h.pk, h.pb, h.kb⟩
theorem CloAt.setT {S : Sto} {A : CA} {C : CS} (h : CloAt S A C) (t : Nat) : CloAt (S.set A.c (insC A.p A.k A.b { C with told := t })) A { C with told := t } :=
  ⟨get_set_eq h.c, by rw [get_set_ne h.cp]; exact h.p, by rw [get_set_ne h.ck]; exact h.k, by rw [get_set_ne h.cb]; exact h.b, h.cp, h.ck, h.cb, h.pk, h.pb, h.kb⟩
theorem CloAt.setK {S : Sto} {A : CA} {C : CS} (h : CloAt S A C) (K : List Kn) : CloAt (S.set A.k (.lst (K.map rwD))) A { C with kno := K } :=
  ⟨by rw [get_set_ne h.ck.symm]; exact h.c, by rw [get_set_ne h.pk.symm]; exact h.p, get_set_eq h.k, by rw [get_set_ne h.kb]; exact h.b, h.cp, h.ck, h.cb, h.pk, h.pb, h.kb⟩
theorem CloAt.setB {S : Sto} {A : CA} {C : CS} (h : CloAt S A C) (B : List (List (Nat × Nat))) : CloAt (S.set A.b (.lst (B.map brD))) A { C with bar := B } :=
  ⟨by rw [get_set_ne h.cb.symm]; exact h.c, by rw [get_set_ne h.pb.symm]; exact h.p, by rw [get_set_ne h.kb.symm]; exact h.k, get_set_eq h.b, h.cp, h.ck, h.cb, h.pk, h.pb, h.kb⟩
section
variable {S : Sto} {A : CA} {C : CS}
theorem fld_p (h : CloAt S A C) : kFld "Closure" "parents" (.hdl A.c) S = .ok (.hdl A.p) S := (kFld_hdl (h := h.c) ..).trans rfl
theorem fld_u (h : CloAt S A C) : kFld "Closure" "unlike" (.hdl A.c) S = .ok (.lst (nsD C.unl)) S := (kFld_hdl (h := h.c) ..).trans rfl
theorem fld_k (h : CloAt S A C) : kFld "Closure" "known" (.hdl A.c) S = .ok (.hdl A.k) S := (kFld_hdl (h := h.c) ..).trans rfl
theorem fld_b (h : CloAt S A C) : kFld "Closure" "bars" (.hdl A.c) S = .ok (.hdl A.b) S := (kFld_hdl (h := h.c) ..).trans rfl
theorem fld_t (h : CloAt S A C) : kFld "Closure" "told" (.hdl A.c) S = .ok (.int (C.told : Int)) S := (kFld_hdl (h := h.c) ..).trans rfl
theorem fld_s (h : CloAt S A C) : kFld "Closure" "settled" (.hdl A.c) S = .ok (.bl C.set) S := (kFld_hdl (h := h.c) ..).trans rfl
theorem meth_c {m : Str} {g : DF} {fa : DA} {e : Env} (h : CloAt S A C) (h2 : ((fsC A.p A.k A.b C).lookup m).isNone = true := by rfl) :
    kMeth "Closure" m [] g fa e (.hdl A.c) S = bnd (fa e S) (kMe2 [] g (.hdl A.c)) := kMeth_hdl h.c h2
theorem par_ix (h : CloAt S A C) {i : Nat} (hi : i < C.par.length) : ixD S (.hdl A.p) (.int (i : Int)) = some (.int ((C.par[i] : Nat) : Int), S) := by
  unfold ixD asQ
  simp only [asT, asL, h.p, Option.bind_some]
  unfold atI
  rw [ixN_ok (by omega) (by unfold nsD; simp; omega)]
  simp [nsD, hi]
theorem root_loop (f : Nat) (h : CloAt S A C) (pw : PW C.par) : ∀ (i m : Nat), i < C.par.length → i < m →
    whR (tVal (eBin neE (eBin ixD (eFld "Closure" "parents" (eVar 0)) (eVar 1)) (eVar 1))) (sAsg 1 (eBin ixD (eFld "Closure" "parents" (eVar 0)) (eVar 1))) m [.va (.hdl A.c), .va (.int (i : Int))] S = .nx [.va (.hdl A.c), .va (.int (rootOf C.par i : Int))] S := by
  intro i
  induction i using Nat.strongRecOn with
  | _ i ih =>
    intro m hi hm
    obtain ⟨m, rfl⟩ : ∃ k, m = k + 1 := ⟨m - 1, by omega⟩
    have e : C.par[i]? = some C.par[i] := List.getElem?_eq_getElem hi
    have le := pw i _ e
    have ht : (tVal (eBin neE (eBin ixD (eFld "Closure" "parents" (eVar 0)) (eVar 1)) (eVar 1))) [.va (.hdl A.c), .va (.int (i : Int))] S = .ok (decide (C.par[i] ≠ i)) S := by
      simp [fld_p h, par_ix h hi]
      omega
    rw [whR_go ht]
    by_cases q : C.par[i] = i
    · rw [decide_eq_false (by simp [q]), whK_no, root_self (by rw [e, q])]
    · have lt : C.par[i] < i := by omega
      rw [decide_eq_true q, whK_go (e' := [.va (.hdl A.c), .va (.int ((C.par[i] : Nat) : Int))]) (S' := S) (by simp [fld_p h, par_ix h hi]), root_step e lt]
      exact ih _ lt m (by omega) (by omega)
theorem root_ok (f : Nat) (h : CloAt S A C) (pw : PW C.par) {i : Nat} (hi : i < C.par.length) (hs : C.par.length ≤ 150) : calls (f + 1) .Closure_root S [.hdl A.c, .int (i : Int)] = .ok (.int (rootOf C.par i : Int)) S := by
  rw [ev_Closure_root, fb_Closure_root]
  have hw : sWhl 200 (tVal (eBin neE (eBin ixD (eFld "Closure" "parents" (eVar 0)) (eVar 1)) (eVar 1))) (sAsg 1 (eBin ixD (eFld "Closure" "parents" (eVar 0)) (eVar 1))) [.va (.hdl A.c), .va (.int (i : Int))] S = .nx [.va (.hdl A.c), .va (.int (rootOf C.par i : Int))] S := root_loop f h pw i 200 hi (by omega)
  generalize sWhl 200 (tVal (eBin neE (eBin ixD (eFld "Closure" "parents" (eVar 0)) (eVar 1)) (eVar 1))) (sAsg 1 (eBin ixD (eFld "Closure" "parents" (eVar 0)) (eVar 1))) = w at *
  simp [hw]
end
end DL
namespace DL
open PySem L2
theorem nsD_set (l : List Nat) (i v : Nat) : (nsD l).set i (.int (v : Int)) = nsD (l.set i v) := by
  unfold nsD; rw [List.map_set]
theorem nsD_len (l : List Nat) : (nsD l).length = l.length := by unfold nsD; simp
section
variable {S : Sto} {A : CA} {C : CS}
theorem fsC_set (A : CA) (C : CS) (s : Bool) : putFD "settled" (.bl s) (fsC A.p A.k A.b C) = fsC A.p A.k A.b { C with set := s } := rfl
theorem fsC_told (A : CA) (C : CS) (t : Nat) : putFD "told" (.int (t : Int)) (fsC A.p A.k A.b C) = fsC A.p A.k A.b { C with told := t } := rfl
theorem sets_ok (h : CloAt S A C) (s : Bool) {e : Env} (h0 : e[0]? = some (.va (.hdl A.c))) : sFldH "Closure" "settled" (eVar 0) (eC (.bl s)) e S = .nx e (S.set A.c (insC A.p A.k A.b { C with set := s })) := by
  refine fldH_ok (v := .bl s) (o := .hdl A.c) (S1 := S) (S2 := S) rfl (by simp [h0]) ?_
  rw [setF_ok h.c (show (6 : Nat) < 1000 by decide), fsC_set]; rfl
theorem setp_ok (h : CloAt S A C) {i v : Nat} (hi : i < C.par.length) : setD S (.hdl A.p) (.int (i : Int)) (.int (v : Int)) = some (S.set A.p (.lst (nsD (C.par.set i v)))) := by
  rw [ev_setD, h.p, kSetH_lst, ixN_ok (by omega) (by rw [nsD_len]; omega), kSetJ_some, Int.toNat_natCast, nsD_set]
/-- what merge makes of it -/
def mC (C : CS) (a b : Nat) : CS := { C with par := mrg C.par a b, set := C.set && decide (rootOf C.par a = rootOf C.par b) }
theorem merge_ok (f : Nat) (h : CloAt S A C) (pw : PW C.par) {a b : Nat} (ha : a < C.par.length) (hb : b < C.par.length) (hs : C.par.length ≤ 150) :
    ∃ S', calls (f + 2) .Closure_merge S [.hdl A.c, .int (a : Int), .int (b : Int)] = .ok .non S' ∧ CloAt S' A (mC C a b) ∧ Off [A.c, A.p] S S' ∧ S'.length = S.length := by
  have ra := root_ok f h pw ha hs
  have rb := root_ok f h pw hb hs
  have m1 := fun fa => meth_c (m := "root") (g := calls (f + 1) .Closure_root) (fa := fa) (e := [.va (.hdl A.c), .va (.int (a : Int)), .va (.int (b : Int)), .no, .no]) h
  have la := root_lt (p := C.par) ha
  have lb := root_lt (p := C.par) hb
  have fin : ∀ (hi lo : Nat), lo < hi → hi < C.par.length → mrg C.par a b = C.par.set hi lo → rootOf C.par a ≠ rootOf C.par b →
      ∃ S', (kRun (kSeq (sFldH "Closure" "settled" (eVar 0) (eC (.bl false))) (.nx [.va (.hdl A.c), .va (.int (a : Int)), .va (.int (b : Int)), .va (.int (lo : Int)), .va (.int (hi : Int))] (S.set A.p (.lst (nsD (C.par.set hi lo)))))) : Res Dv) = .ok .non S' ∧ CloAt S' A (mC C a b) ∧ Off [A.c, A.p] S S' ∧ S'.length = S.length := fun hi lo h1 h2 h3 h4 => by
    have h5 := h.setP (C.par.set hi lo)
    have e1 := sets_ok h5 false (e := [.va (.hdl A.c), .va (.int (a : Int)), .va (.int (b : Int)), .va (.int (lo : Int)), .va (.int (hi : Int))]) rfl
    refine ⟨(S.set A.p (.lst (nsD (C.par.set hi lo)))).set A.c (insC A.p A.k A.b { C with par := C.par.set hi lo, set := false }), by simp [e1], ?_, (Off.set (by simp)).trans (Off.set (by simp)), by simp⟩
    have h6 := h5.setS false
    unfold mC
    rw [h3, decide_eq_false h4, Bool.and_false]
    exact h6
  have emr : mrg C.par a b = if rootOf C.par a = rootOf C.par b then C.par else C.par.set (max (rootOf C.par a) (rootOf C.par b)) (min (rootOf C.par a) (rootOf C.par b)) := rfl
  have emc : rootOf C.par a = rootOf C.par b → mC C a b = C := fun e => by
    unfold mC mrg
    rw [if_pos e, decide_eq_true e, Bool.and_true]
  rw [ev_Closure_merge, fb_Closure_merge]
  generalize mrg C.par a b = q at *
  generalize mC C a b = D at *
  generalize rootOf C.par a = x at *
  generalize rootOf C.par b = y at *
  rcases Nat.lt_trichotomy x y with l | e | l
  · rw [if_neg (by omega), Nat.max_eq_right (by omega), Nat.min_eq_left (by omega)] at emr
    have z := fin y x l lb emr (by omega)
    have n1 : ¬ ((x : Int) = (y : Int)) := by omega
    have n2 : ¬ ((y : Int) < (x : Int)) := by omega
    have sp := setp_ok h (v := x) lb
    generalize sFldH "Closure" "settled" (eVar 0) (eC (.bl false)) = w at *
    simp [m1, ra, rb, n1, n2, fld_p h, -ev_setD, sp]
    exact z
  · have z := emc e
    subst e
    refine ⟨S, by simp [m1, ra, rb], ?_, Off.refl _ _, rfl⟩
    rw [z]; exact h
  · rw [if_neg (by omega), Nat.max_eq_left (by omega), Nat.min_eq_right (by omega)] at emr
    have z := fin x y l la emr (by omega)
    have n1 : ¬ ((x : Int) = (y : Int)) := by omega
    have n2 : (y : Int) < (x : Int) := by omega
    have sp := setp_ok h (v := y) la
    generalize sFldH "Closure" "settled" (eVar 0) (eC (.bl false)) = w at *
    simp [m1, ra, rb, n1, n2, fld_p h, -ev_setD, sp]
    exact z
end
end DL
namespace DL
open PySem L2
def kyD (k : Str × List Nat) : Dv := .tup [.str k.1, .tup (nsD k.2)]
def nkK (k : Str × List Nat) : NestedKey := .tup [.text k.1, .tup (k.2.map fun (i : Nat) => .num (i : Int))]
def tbD (t : Tb) : List (Dv × Dv) := t.map fun q => (kyD q.1, .int (q.2 : Int))
theorem nks_nsD : ∀ l : List Nat, nks (nsD l) = some (l.map fun (i : Nat) => NestedKey.num (i : Int))
  | [] => rfl
  | a :: l => by
    have ih := nks_nsD l
    unfold nsD at ih ⊢
    simp only [List.map_cons, nks, nk, ih, Option.bind_some, Option.map_some]
theorem dep_nums : ∀ l : List Nat, NestedKey.depthAll (l.map fun (i : Nat) => NestedKey.num (i : Int)) = 0
  | [] => by simp [NestedKey.depthAll]
  | a :: l => by simp [NestedKey.depthAll, NestedKey.depth, dep_nums l]
theorem nkT_ky (k : Str × List Nat) : nkT (kyD k) = some (nkK k) := by
  unfold nkT kyD nkK
  simp only [nk, nks, nks_nsD, Option.bind_some, Option.map_some]
  rw [if_pos]
  simp [NestedKey.depth, NestedKey.depthAll, dep_nums]
theorem nums_inj : ∀ {l m : List Nat}, (l.map fun (i : Nat) => NestedKey.num (i : Int)) = (m.map fun (i : Nat) => NestedKey.num (i : Int)) → l = m
  | [], [], _ => rfl
  | [], _ :: _, h => by simp at h
  | _ :: _, [], h => by simp at h
  | a :: l, b :: m, h => by
    simp only [List.map_cons, List.cons.injEq, NestedKey.num.injEq] at h
    rw [nums_inj h.2, show a = b by have := h.1; omega]
theorem nkK_inj {k k' : Str × List Nat} (h : nkK k = nkK k') : k = k' := by
  unfold nkK at h
  simp only [NestedKey.tup.injEq, List.cons.injEq, NestedKey.text.injEq, and_true] at h
  exact Prod.ext h.1 (nums_inj h.2)
theorem look_tb (k : Str × List Nat) : ∀ t : Tb, lookN (tbD t) (nkK k) = (lkT t k).map fun w => .int (w : Int)
  | [] => rfl
  | q :: t => by
    have ih := look_tb k t
    unfold lookN lkT tbD at ih ⊢
    rw [List.map_cons, List.find?_cons, List.find?_cons, nkT_ky]
    by_cases h : q.1 = k
    · rw [h]; simp
    · have h2 : ¬ (some (nkK q.1) = some (nkK k)) := fun z => h (nkK_inj (Option.some.inj z))
      simp only [decide_eq_false h, decide_eq_false h2]
      exact ih
theorem put_tb {t : Tb} {k : Str × List Nat} (h : lkT t k = none) (v : Nat) : putN (tbD t) (kyD k) (nkK k) (.int (v : Int)) = tbD (t ++ [(k, v)]) := by
  unfold putN
  rw [look_tb, h]
  simp [tbD]
section
variable {S : Sto} {A : CA} {C : CS}
theorem roots_ok (f : Nat) (h : CloAt S A C) (pw : PW C.par) (hs : C.par.length ≤ 150) (i j : Nat) {e : Env} (hij : i ≠ j) (he : e[i]? = some (.va (.hdl A.c))) (hj : j < e.length) :
    ∀ as : List Nat, (∀ x ∈ as, x < C.par.length) → lcR (gN j) tTrue (eMeth "Closure" "root" [] (calls (f + 1) .Closure_root) (eVar i) (aCons (eVar j) aNil)) e (nsD as) S = .ok (nsD (as.map (rootOf C.par))) S
  | [], _ => rfl
  | a :: as, ha => by
    have ih := roots_ok f h pw hs i j hij he hj as fun x hx => ha x (List.mem_cons_of_mem _ hx)
    have ra := root_ok f h pw (ha a List.mem_cons_self) hs
    have g1 : (e.set j (.va (.int (a : Int))))[i]? = some (.va (.hdl A.c)) := by rw [List.getElem?_set, if_neg hij.symm]; exact he
    have g2 : (e.set j (.va (.int (a : Int))))[j]? = some (.va (.int (a : Int))) := by rw [List.getElem?_set, if_pos rfl, if_pos hj]
    unfold nsD at ih ⊢
    rw [List.map_cons, List.map_cons, List.map_cons]
    refine lcR_t (e1 := e.set j (.va (.int (a : Int)))) (S1 := S) (S2 := S) rfl rfl ?_ ih
    have m1 := fun fa => meth_c (m := "root") (g := calls (f + 1) .Closure_root) (fa := fa) (e := e.set j (.va (.int (a : Int)))) h
    simp [g1, g2, m1, ra]
end
end DL
namespace DL
open PySem L2
theorem mC_self (C : CS) (v : Nat) : mC C v v = C := by
  unfold mC mrg
  rw [if_pos rfl, decide_eq_true rfl, Bool.and_true]
section
variable {S : Sto} {A : CA} {C : CS}
theorem row_step (f : Nat) (h : CloAt S A C) (pw : PW C.par) (hs : C.par.length ≤ 150) {t : Tb} {k : Nat} (hk : S[k]? = some (.dcn (tbD t))) (nk : k ∉ A.ids) (hl : t.length < 10000) (ht : TbIn C.par.length t) {g : Str} {as : List Nat} {v : Nat} (ha : ∀ x ∈ as, x < C.par.length) (hv : v < C.par.length) (hal : as.length < 10000) (x5 x6 : Sl) :
    ∃ S' t' C' y, fb_Closure_settle_l0 (calls (f + 2)) [.va (.hdl A.c), .va (.hdl k), .va (.str g), .va (.tup (nsD as)), .va (.int (v : Int)), x5, x6] S = .nx [.va (.hdl A.c), .va (.hdl k), .va (.str g), .va (.tup (nsD as)), .va (.int (v : Int)), y, x6] S' ∧
      CloAt S' A C' ∧ S'[k]? = some (.dcn (tbD t')) ∧ Off (k :: [A.c, A.p]) S S' ∧ S'.length = S.length ∧ C' = { C with par := C'.par, set := C'.set } ∧ t'.length ≤ t.length + 1 ∧ TbIn C.par.length t' ∧ C'.par.length = C.par.length ∧ PW C'.par ∧
      ∀ r, pass ((g, as, v) :: r) C.par C.set t = pass r C'.par C'.set t' := by
  have hlen : (nsD (as.map (rootOf C.par))).length ≤ 16777216 := by rw [nsD_len, List.length_map]; omega
  have key : kyD (keyT C.par g as) = .tup [.str g, .tup (nsD (as.map (rootOf C.par)))] := rfl
  have hc2 : lcR (gN 6) tTrue (eMeth "Closure" "root" [] (calls (f + 2) .Closure_root) (eVar 0) (aCons (eVar 6) aNil)) [.va (.hdl A.c), .va (.hdl k), .va (.str g), .va (.tup (nsD as)), .va (.int (v : Int)), x5, .no] (nsD as) S = .ok (nsD (as.map (rootOf C.par))) S :=
    roots_ok (f + 1) h pw hs 0 6 (e := [.va (.hdl A.c), .va (.hdl k), .va (.str g), .va (.tup (nsD as)), .va (.int (v : Int)), x5, .no]) (by decide) rfl (show 6 < 7 by decide) as ha
  have s1 : sAsg 5 (eTup (aCons (eVar 2) (aCons (eCB tupleD (aCons (eFrz (fLc (iSq (eVar 3)) (gN 6) tTrue (eMeth "Closure" "root" [] (calls (f + 2) .Closure_root) (eVar 0) (aCons (eVar 6) aNil)) [6])) aNil)) aNil))) [.va (.hdl A.c), .va (.hdl k), .va (.str g), .va (.tup (nsD as)), .va (.int (v : Int)), x5, x6] S
      = .nx [.va (.hdl A.c), .va (.hdl k), .va (.str g), .va (.tup (nsD as)), .va (.int (v : Int)), .va (kyD (keyT C.par g as)), x6] S := by
    generalize eMeth "Closure" "root" [] (calls (f + 2) .Closure_root) (eVar 0) (aCons (eVar 6) aNil) = w at *
    rw [key]
    generalize nsD (as.map (rootOf C.par)) = z at *
    simp [hc2, kLcEnd' _ _ hlen]
  have hkD := nkT_ky (keyT C.par g as)
  have hlt : (tbD t).length < 16777216 := by unfold tbD; rw [List.length_map]; omega
  have nc : A.c ≠ k := fun z => nk (by simp [CA.ids, z])
  have np : A.p ≠ k := fun z => nk (by simp [CA.ids, z])
  unfold fb_Closure_settle_l0
  generalize hw : sAsg 5 (eTup (aCons (eVar 2) (aCons (eCB tupleD (aCons (eFrz (fLc (iSq (eVar 3)) (gN 6) tTrue (eMeth "Closure" "root" [] (calls (f + 2) .Closure_root) (eVar 0) (aCons (eVar 6) aNil)) [6])) aNil)) aNil))) = w at *
  clear hw hc2 key
  generalize hK : keyT C.par g as = K at *
  have m1 := fun fa => meth_c (m := "merge") (g := calls (f + 2) .Closure_merge) (fa := fa) (e := [.va (.hdl A.c), .va (.hdl k), .va (.str g), .va (.tup (nsD as)), .va (.int (v : Int)), .va (kyD K), x6]) h
  have k1 := kNDef1_ok S [.va (.hdl A.c), .va (.hdl k), .va (.str g), .va (.tup (nsD as)), .va (.int (v : Int)), .va (kyD K), x6] (tbD t) k (eVar 5) (eVar 4) hk
  have k3 := kND3_ok S (kyD K) (.int (v : Int)) (tbD t) k (nkK K) hk hkD hlt
  rw [look_tb] at k3
  cases e : lkT t K with
  | some w' =>
    rw [e] at k3
    have hw' : w' < C.par.length := ht _ (lkT_mem e)
    obtain ⟨S', c1, c2, c3, c4⟩ := merge_ok f h pw hw' hv hs
    refine ⟨S', t, mC C w' v, .va (kyD K), ?_, c2, c3.get hk (by simp [nc.symm, np.symm]), c3.mono (by simp), c4, rfl, by omega, ht, mrg_len, mrg_pw pw, fun r => ?_⟩
    · generalize kyD K = kd at *
      generalize nsD as = z at *
      simp [s1, m1, k1, k3, c1]
    · conv => lhs; unfold pass
      rw [hK, e]; rfl
  | none =>
    rw [e] at k3
    have h2 : CloAt (S.set k (.dcn (tbD (t ++ [(K, v)])))) A C := h.off (X := [k]) (Off.set (by simp)) fun i hi z => nk (by simp at z; rw [← z]; exact hi)
    obtain ⟨S', c1, c2, c3, c4⟩ := merge_ok f h2 pw hv hv hs
    rw [mC_self] at c2
    refine ⟨S', t ++ [(K, v)], C, .va (kyD K), ?_, c2, c3.get (get_set_eq hk) (by simp [nc.symm, np.symm]), (Off.set (by simp)).trans (c3.mono (by simp)), by rw [c4]; simp, rfl, by simp, ?_, rfl, pw, fun r => ?_⟩
    · have pt := put_tb e v
      generalize tbD (t ++ [(K, v)]) = T2 at *
      rw [pt] at k3
      generalize kyD K = kd at *
      generalize nsD as = z at *
      simp only [Option.map_none] at k3
      simp [s1, m1, k1, k3, c1]
    · intro q hq
      rcases List.mem_append.mp hq with hq | hq
      · exact ht q hq
      · simp only [List.mem_singleton] at hq; subst hq; exact hv
    · conv => lhs; unfold pass
      rw [hK, e]
end
end DL
namespace DL
open PySem L2
section
variable {A : CA}
def gRow : DG := gT (gsCons (gN 2) (gsCons (gN 3) (gsCons (gN 4) gsNil)))
/-- the rows that are left -/
theorem pass_loop (f : Nat) (K : List Kn) (n : Nat) (hn : n ≤ 150) (hK : KnIn n K) (hKl : ∀ q ∈ K, q.2.1.length < 10000) (hKL : K.length < 5000) {k : Nat} (nk : k ∉ A.ids) :
    ∀ (r : List Kn) (i : Nat) (S : Sto) (C : CS) (t : Tb) (x2 x3 x4 x5 x6 : Sl), K.drop i = r → i ≤ K.length → t.length ≤ i → C.kno = K → CloAt S A C → PW C.par → C.par.length = n → S[k]? = some (.dcn (tbD t)) → TbIn n t →
    ∃ S' y2 y3 y4 y5 y6, forH A.k gRow (fb_Closure_settle_l0 (calls (f + 2))) r.length i [.va (.hdl A.c), .va (.hdl k), x2, x3, x4, x5, x6] S = .nx [.va (.hdl A.c), .va (.hdl k), y2, y3, y4, y5, y6] S' ∧
      CloAt S' A { C with par := (pass r C.par C.set t).1, set := (pass r C.par C.set t).2 } ∧ Off (k :: [A.c, A.p]) S S' ∧ S'.length = S.length
  | [], i, S, C, t, x2, x3, x4, x5, x6, hr, hi, _, hC, h, _, _, _, _ => by
    have hge : K.length ≤ i := by simpa using hr
    refine ⟨S, x2, x3, x4, x5, x6, ?_, h, Off.refl _ _, rfl⟩
    have sq : sqO S A.k = some (C.kno.map rwD) := by unfold sqO; simp only [h.k]
    unfold forH
    simp only [List.length_nil, sq]
    rw [if_pos (by rw [List.length_map, hC]; exact hge)]
  | q :: r, i, S, C, t, x2, x3, x4, x5, x6, hr, hi, htl, hC, h, pw, hlen, hk, ht => by
    have hlt : i < K.length := by
      rcases Nat.lt_or_ge i K.length with z | z
      · exact z
      · rw [List.drop_eq_nil_of_le z] at hr; cases hr
    have hq : K[i] = q ∧ K.drop (i + 1) = r := by
      rw [List.drop_eq_getElem_cons hlt] at hr
      simp only [List.cons.injEq] at hr
      exact hr
    obtain ⟨g, as, v⟩ := q
    have hmem : (g, as, v) ∈ K := by rw [← hq.1]; exact List.getElem_mem hlt
    obtain ⟨ha, hv⟩ := hK _ hmem
    have hal := hKl _ hmem
    obtain ⟨S1, t1, C1, y, e1, c1, k1, o1, l1, cs, tl, ti, cl, cw, ep⟩ := row_step f h pw (by omega) hk nk (by omega) (by rw [hlen]; exact ht) (by rw [hlen]; exact ha) (by rw [hlen]; exact hv) hal x5 x6
    obtain ⟨S2, y2, y3, y4, y5, y6, e2, c2, o2, l2⟩ := pass_loop f K n hn hK hKl hKL nk r (i + 1) S1 C1 t1 (.va (.str g)) (.va (.tup (nsD as))) (.va (.int (v : Int))) y x6 hq.2 (by omega) (by omega) (by rw [cs]; exact hC) c1 cw (by rw [cl]; exact hlen) k1 (by rw [← hlen]; exact ti)
    refine ⟨S2, y2, y3, y4, y5, y6, ?_, ?_, o1.trans o2, l2.trans l1⟩
    · have sq : sqO S A.k = some (C.kno.map rwD) := by unfold sqO; simp only [h.k]
      have hd : (C.kno.map rwD)[i]? = some (.tup [.str g, .tup (nsD as), .int (v : Int)]) := by rw [hC, List.getElem?_map, List.getElem?_eq_getElem hlt, hq.1]; rfl
      rw [List.length_cons]
      unfold forH
      simp only [sq, hd]
      have hg : gRow (.tup [.str g, .tup (nsD as), .int (v : Int)]) [.va (.hdl A.c), .va (.hdl k), x2, x3, x4, x5, x6] = some [.va (.hdl A.c), .va (.hdl k), .va (.str g), .va (.tup (nsD as)), .va (.int (v : Int)), x5, x6] := rfl
      simp only [hg]
      rw [e1]
      exact e2
    · rw [ep r]
      have e3 : ({ C1 with par := (pass r C1.par C1.set t1).1, set := (pass r C1.par C1.set t1).2 } : CS) = { C with par := (pass r C1.par C1.set t1).1, set := (pass r C1.par C1.set t1).2 } := by rw [cs]
      rw [← e3]; exact c2
def stT : DT := tNot' (tTru (eFld "Closure" "settled" (eVar 0)))
def stS (c : Fn → DF) : DS := sSeq (sFldH "Closure" "settled" (eVar 0) (eC (.bl true))) (sSeq (sAsg 1 eNewN) (sForH (eFld "Closure" "known" (eVar 0)) gRow (fb_Closure_settle_l0 c)))
theorem fb_settle_eq (c : Fn → DF) : fb_Closure_settle c = sWhl 200 stT (stS c) := rfl
theorem stT_ok {S : Sto} {C : CS} (h : CloAt S A C) (y : List Sl) : stT (.va (.hdl A.c) :: y) S = .ok (!C.set) S := by
  unfold stT
  simp [fld_s h]
theorem turn_ok (f : Nat) {n : Nat} (hn : n ≤ 150) {S : Sto} {C : CS} (h : CloAt S A C) (pw : PW C.par) (hlen : C.par.length = n) (hK : KnIn n C.kno) (hKl : ∀ q ∈ C.kno, q.2.1.length < 10000) (hKL : C.kno.length < 5000) (x1 x2 x3 x4 x5 x6 : Sl) (lt : ∀ i ∈ A.ids, i < S.length) :
    ∃ S' y1 y2 y3 y4 y5 y6, stS (calls (f + 2)) [.va (.hdl A.c), x1, x2, x3, x4, x5, x6] S = .nx [.va (.hdl A.c), y1, y2, y3, y4, y5, y6] S' ∧
      CloAt S' A { C with par := (pass C.kno C.par true []).1, set := (pass C.kno C.par true []).2 } ∧ Off [A.c, A.p] S S' := by
  have e1 := sets_ok h true (e := [.va (.hdl A.c), x1, x2, x3, x4, x5, x6]) rfl
  have h1 := h.setS true
  generalize hS1 : S.set A.c (insC A.p A.k A.b { C with set := true }) = S1 at *
  have l1 : S1.length = S.length := by rw [← hS1]; simp
  have o1 : Off [A.c, A.p] S S1 := by rw [← hS1]; exact Off.set (by simp)
  have nk : S1.length ∉ A.ids := fun z => by have := lt _ z; omega
  have h2 := h1.app [.dcn []]
  have hk : (S1 ++ [Ob.dcn []])[S1.length]? = some (.dcn (tbD [])) := by simp [tbD]
  obtain ⟨S2, y2, y3, y4, y5, y6, e2, c2, o2, l2⟩ := pass_loop f C.kno n hn hK hKl hKL nk C.kno 0 (S1 ++ [.dcn []]) { C with set := true } [] x2 x3 x4 x5 x6 rfl (Nat.zero_le _) (Nat.le_refl _) rfl h2 pw hlen hk (tb_nil _)
  refine ⟨S2, .va (.hdl S1.length), y2, y3, y4, y5, y6, ?_, c2, o1.trans ⟨by rw [l2]; simp, fun i hi n => ?_⟩⟩
  · unfold stS
    have sq : sqO (S1 ++ [Ob.dcn []]) A.k = some (C.kno.map rwD) := by unfold sqO; simp only [h2.k]
    have kf : kForH gRow (fb_Closure_settle_l0 (calls (f + 2))) [.va (.hdl A.c), .va (.hdl S1.length), x2, x3, x4, x5, x6] (.hdl A.k) (S1 ++ [Ob.dcn []]) = forH A.k gRow (fb_Closure_settle_l0 (calls (f + 2))) (C.kno.map rwD).length 0 [.va (.hdl A.c), .va (.hdl S1.length), x2, x3, x4, x5, x6] (S1 ++ [Ob.dcn []]) := by unfold kForH; simp only [sq]
    rw [List.length_map] at kf
    generalize fb_Closure_settle_l0 (calls (f + 2)) = w at *
    generalize gRow = gr at *
    generalize sFldH "Closure" "settled" (eVar 0) (eC (.bl true)) = u at *
    have fk := fld_k h2
    simp [e1, fk, kf, e2]
  · rw [o2.at_ i (by simp; omega) (fun z => by
      rcases List.mem_cons.mp z with z | z
      · omega
      · exact n z), List.getElem?_append_left hi]
theorem settle_loop (f : Nat) {n : Nat} (hn : n ≤ 150) : ∀ (F m : Nat) (S : Sto) (C : CS) (x1 x2 x3 x4 x5 x6 : Sl), CloAt S A C → PW C.par → C.par.length = n → KnIn n C.kno → (∀ q ∈ C.kno, q.2.1.length < 10000) → C.kno.length < 5000 → (∀ i ∈ A.ids, i < S.length) →
    (settleN F C.kno C.par C.set).2 = true → F < m → ∃ S' y1 y2 y3 y4 y5 y6, whR stT (stS (calls (f + 2))) m [.va (.hdl A.c), x1, x2, x3, x4, x5, x6] S = .nx [.va (.hdl A.c), y1, y2, y3, y4, y5, y6] S' ∧ CloAt S' A (stl F C) ∧ Off [A.c, A.p] S S'
  | F, m, S, C, x1, x2, x3, x4, x5, x6, h, pw, hlen, hK, hKl, hKL, lt, hf, hm => by
    obtain ⟨m, rfl⟩ : ∃ k, m = k + 1 := ⟨m - 1, by omega⟩
    rw [whR_go (stT_ok h _)]
    cases hs : C.set with
    | true =>
      refine ⟨S, x1, x2, x3, x4, x5, x6, rfl, ?_, Off.refl _ _⟩
      rw [stl_id hs]; exact h
    | false =>
      cases F with
      | zero => unfold settleN at hf; rw [hs] at hf; cases hf
      | succ F =>
        obtain ⟨S1, y1, y2, y3, y4, y5, y6, e1, c1, o1⟩ := turn_ok f hn h pw hlen hK hKl hKL x1 x2 x3 x4 x5 x6 lt
        obtain ⟨i1, i2, _, _⟩ := pass_inv C.kno (p := C.par) (s := true) (t := []) pw (by rw [hlen]; exact hK) (tb_nil _)
        have est : stl (F + 1) C = stl F { C with par := (pass C.kno C.par true []).1, set := (pass C.kno C.par true []).2 } := by
          unfold stl
          conv => lhs; unfold settleN
          rw [if_neg (by rw [hs]; exact Bool.false_ne_true)]
        have hf2 : (settleN F C.kno (pass C.kno C.par true []).1 (pass C.kno C.par true []).2).2 = true := by
          unfold settleN at hf
          rw [if_neg (by rw [hs]; exact Bool.false_ne_true)] at hf
          exact hf
        obtain ⟨S2, z1, z2, z3, z4, z5, z6, e2, c2, o2⟩ := settle_loop f hn F m S1 _ y1 y2 y3 y4 y5 y6 c1 i2 (i1.trans hlen) hK hKl hKL (fun i hi => Nat.lt_of_lt_of_le (lt i hi) o1.len) hf2 (by omega)
        refine ⟨S2, z1, z2, z3, z4, z5, z6, ?_, by rw [est]; exact c2, o1.trans o2⟩
        show whK _ _ _ true S = _
        rw [whK_go e1]; exact e2
theorem settle_ok (f : Nat) {n : Nat} (hn : n ≤ 150) {F : List Fact} {S : Sto} {C : CS} (h : CloAt S A C) (ci : CI n F C) (hKl : ∀ q ∈ C.kno, q.2.1.length < 10000) (hKL : C.kno.length < 5000) (lt : ∀ i ∈ A.ids, i < S.length) :
    ∃ S', calls (f + 3) .Closure_settle S [.hdl A.c] = .ok .non S' ∧ CloAt S' A (stl (n + 1) C) ∧ Off [A.c, A.p] S S' := by
  obtain ⟨S', y1, y2, y3, y4, y5, y6, e, c, o⟩ := settle_loop f hn (n + 1) 200 S C .no .no .no .no .no .no h ci.pw ci.len ci.kin hKl hKL lt (stl_set ci (Nat.le_refl n)) (by omega)
  refine ⟨S', ?_, c, o⟩
  rw [ev_Closure_settle, fb_settle_eq]
  show kRun (whR stT (stS (calls (f + 2))) 200 _ S) = _
  rw [e]; rfl
end
end DL
namespace DL
open PySem L2
theorem nodup_len : ∀ {ks l : List Int}, ks.Nodup → (∀ k ∈ ks, k ∈ l) → ks.length ≤ l.length
  | [], l, _, _ => Nat.zero_le _
  | x :: ks, l, hn, hs => by
    simp only [List.nodup_cons] at hn
    have hx := hs x List.mem_cons_self
    have ih := nodup_len (ks := ks) (l := l.erase x) hn.2 fun k hk => by
      have hne : k ≠ x := fun z => hn.1 (z ▸ hk)
      exact (List.mem_erase_of_ne hne).mpr (hs k (List.mem_cons_of_mem _ hk))
    rw [List.length_erase_of_mem hx] at ih
    have := List.length_pos_of_mem hx
    simp only [List.length_cons]; omega
theorem srt_nodup (l : List Int) : (TI.srtI l).Nodup := (TI.pw_srtI l).imp fun h => by omega
theorem srt_less : ∀ {l : List Int}, ¬ l.Nodup → (TI.srtI l).length < l.length
  | [], h => (h List.nodup_nil).elim
  | x :: l, h => by
    by_cases hx : x ∈ l
    · have := nodup_len (ks := TI.srtI (x :: l)) (l := l) (srt_nodup _) fun k hk => by
        rcases List.mem_cons.mp (TI.mem_srtI.mp hk) with rfl | z
        · exact hx
        · exact z
      simp only [List.length_cons]; omega
    · have h2 : ¬ l.Nodup := fun z => h (List.nodup_cons.mpr ⟨hx, z⟩)
      have ih := srt_less h2
      have := nodup_len (ks := TI.srtI (x :: l)) (l := x :: TI.srtI l) (srt_nodup _) fun k hk => by
        rcases List.mem_cons.mp (TI.mem_srtI.mp hk) with rfl | z
        · exact List.mem_cons_self
        · exact List.mem_cons_of_mem _ (TI.mem_srtI.mpr z)
      simp only [List.length_cons] at this ⊢; omega
theorem srt_lt_iff (l : List Int) : (TI.srtI l).length < l.length ↔ ¬ l.Nodup := by
  constructor
  · intro h z
    have := ints_len_eq (srt_nodup l) z fun x => TI.mem_srtI
    omega
  · exact srt_less
def icast (l : List Nat) : List Int := l.map fun (i : Nat) => (i : Int)
theorem nsD_icast (l : List Nat) : nsD l = (icast l).map Dv.int := by unfold nsD icast; rw [List.map_map]; rfl
theorem icast_nodup (l : List Nat) : (icast l).Nodup ↔ l.Nodup := by
  unfold icast
  constructor
  · exact nodup_of_nodup_map _
  · intro h
    exact List.pairwise_map.mpr (h.imp fun {a b} hne z => hne (by omega))
section
variable {S : Sto} {A : CA} {C : CS}
theorem settle_id (f : Nat) (h : CloAt S A C) (hs : C.set = true) : calls (f + 1) .Closure_settle S [.hdl A.c] = .ok .non S := by
  rw [ev_Closure_settle, fb_settle_eq]
  show kRun (whR stT (stS (calls f)) 200 _ S) = _
  rw [whR_go (stT_ok h _), hs]; rfl
def gPr : DG := gT (gsCons (gN 2) (gsCons (gN 3) gsNil))
theorem dif_loop (f : Nat) (h : CloAt S A C) (pw : PW C.par) (hn : C.par.length ≤ 150) : ∀ (ps : List (Nat × Nat)) (d : Dv) (x2 x3 : Sl), (∀ q ∈ ps, q.1 < C.par.length ∧ q.2 < C.par.length) →
    ∃ y2 y3, forR gPr (fb_Closure_differs_l0 (calls (f + 1))) (ps.map pqD) [.va (.hdl A.c), .va d, x2, x3] S = if difB C.par ps = true then .rt (.bl true) S else .nx [.va (.hdl A.c), .va d, y2, y3] S
  | [], d, x2, x3, _ => ⟨x2, x3, rfl⟩
  | (a, b) :: ps, d, x2, x3, hp => by
    obtain ⟨ha, hb⟩ := hp (a, b) List.mem_cons_self
    obtain ⟨y2, y3, ih⟩ := dif_loop f h pw hn ps d (.va (.int (a : Int))) (.va (.int (b : Int))) fun q hq => hp q (List.mem_cons_of_mem _ hq)
    refine ⟨y2, y3, ?_⟩
    have ra := root_ok f h pw ha hn
    have rb := root_ok f h pw hb hn
    have m1 := fun fa => meth_c (m := "root") (g := calls (f + 1) .Closure_root) (fa := fa) (e := [.va (.hdl A.c), .va d, .va (.int (a : Int)), .va (.int (b : Int))]) h
    have hb0 : fb_Closure_differs_l0 (calls (f + 1)) [.va (.hdl A.c), .va d, .va (.int (a : Int)), .va (.int (b : Int))] S = if rootOf C.par a ≠ rootOf C.par b then .rt (.bl true) S else .nx [.va (.hdl A.c), .va d, .va (.int (a : Int)), .va (.int (b : Int))] S := by
      unfold fb_Closure_differs_l0
      by_cases e : rootOf C.par a = rootOf C.par b
      · simp [m1, ra, rb, e]
      · have n1 : ¬ ((rootOf C.par a : Int) = (rootOf C.par b : Int)) := by omega
        simp [m1, ra, rb, e, n1]
    have hg : gPr (pqD (a, b)) [.va (.hdl A.c), .va d, x2, x3] = some [.va (.hdl A.c), .va d, .va (.int (a : Int)), .va (.int (b : Int))] := rfl
    have e2 : difB C.par ((a, b) :: ps) = (decide (rootOf C.par a ≠ rootOf C.par b) || difB C.par ps) := rfl
    rw [List.map_cons, e2]
    by_cases e : rootOf C.par a = rootOf C.par b
    · rw [forR_nx (e2 := [.va (.hdl A.c), .va d, .va (.int (a : Int)), .va (.int (b : Int))]) (S1 := S) hg (by rw [hb0, if_neg (by simp [e])]), ih]
      simp [e]
    · rw [forR_rt (r := .bl true) (S1 := S) hg (by rw [hb0, if_pos e])]
      simp [e]
theorem differs_ok (f : Nat) (h : CloAt S A C) (pw : PW C.par) (hn : C.par.length ≤ 150) (hs : C.set = true) {ps : List (Nat × Nat)} (hp : ∀ q ∈ ps, q.1 < C.par.length ∧ q.2 < C.par.length) :
    calls (f + 2) .Closure_differs S [.hdl A.c, brD ps] = .ok (.bl (difB C.par ps)) S := by
  rw [ev_Closure_differs, fb_Closure_differs]
  have e1 := settle_id f h hs
  obtain ⟨y2, y3, e2⟩ := dif_loop f h pw hn ps (brD ps) .no .no hp
  have m1 := fun fa => meth_c (m := "settle") (g := calls (f + 1) .Closure_settle) (fa := fa) (e := [.va (.hdl A.c), .va (brD ps), .no, .no]) h
  have sq : iSq (eVar 1) [.va (.hdl A.c), .va (brD ps), .no, .no] S = .ok (ps.map pqD) S := rfl
  change kRun (sSeq _ (sSeq (sFor (iSq (eVar 1)) gPr _) _) _ _) = _
  generalize iSq (eVar 1) = sv at *
  generalize fb_Closure_differs_l0 (calls (f + 1)) = w at *
  generalize gPr = gr at *
  generalize brD ps = bd at *
  cases hd : difB C.par ps with
  | true => simp [m1, e1, sq, e2, hd]
  | false => simp [m1, e1, sq, e2, hd]
theorem st_loop (f : Nat) (h : CloAt S A C) (pw : PW C.par) (hn : C.par.length ≤ 150) (hs : C.set = true) (hb : ∀ ps ∈ C.bar, ∀ q ∈ ps, q.1 < C.par.length ∧ q.2 < C.par.length) : ∀ (r : List (List (Nat × Nat))) (i : Nat) (d : Dv) (x2 x3 : Sl), C.bar.drop i = r → i ≤ C.bar.length →
    ∃ y2, forH A.b (gN 2) (fb_Closure_stands_l0 (calls (f + 2))) r.length i [.va (.hdl A.c), .va d, x2, x3] S = if r.all (difB C.par) = true then .nx [.va (.hdl A.c), .va d, y2, x3] S else .rt (.bl false) S
  | [], i, d, x2, x3, hr, hi => by
    have hge : C.bar.length ≤ i := by simpa using hr
    refine ⟨x2, ?_⟩
    have sq : sqO S A.b = some (C.bar.map brD) := by unfold sqO; simp only [h.b]
    unfold forH
    simp only [List.length_nil, sq]
    rw [if_pos (by rw [List.length_map]; exact hge)]; rfl
  | ps :: r, i, d, x2, x3, hr, hi => by
    have hlt : i < C.bar.length := by
      rcases Nat.lt_or_ge i C.bar.length with z | z
      · exact z
      · rw [List.drop_eq_nil_of_le z] at hr; cases hr
    have hq : C.bar[i] = ps ∧ C.bar.drop (i + 1) = r := by
      rw [List.drop_eq_getElem_cons hlt] at hr
      simp only [List.cons.injEq] at hr
      exact hr
    have hmem : ps ∈ C.bar := by rw [← hq.1]; exact List.getElem_mem hlt
    obtain ⟨y2, ih⟩ := st_loop f h pw hn hs hb r (i + 1) d (.va (brD ps)) x3 hq.2 (by omega)
    refine ⟨y2, ?_⟩
    have sq : sqO S A.b = some (C.bar.map brD) := by unfold sqO; simp only [h.b]
    have hd : (C.bar.map brD)[i]? = some (brD ps) := by rw [List.getElem?_map, List.getElem?_eq_getElem hlt, hq.1]; rfl
    have hdif := differs_ok f h pw hn hs (hb ps hmem)
    have m1 := fun fa => meth_c (m := "differs") (g := calls (f + 2) .Closure_differs) (fa := fa) (e := [.va (.hdl A.c), .va d, .va (brD ps), x3]) h
    have hb0 : fb_Closure_stands_l0 (calls (f + 2)) [.va (.hdl A.c), .va d, .va (brD ps), x3] S = if difB C.par ps = true then .nx [.va (.hdl A.c), .va d, .va (brD ps), x3] S else .rt (.bl false) S := by
      unfold fb_Closure_stands_l0
      generalize brD ps = bd at *
      cases hv : difB C.par ps with
      | true => simp [m1, hdif, hv]
      | false => simp [m1, hdif, hv]
    rw [List.length_cons]
    unfold forH
    simp only [sq, hd]
    have hg : gN 2 (brD ps) [.va (.hdl A.c), .va d, x2, x3] = some [.va (.hdl A.c), .va d, .va (brD ps), x3] := rfl
    simp only [hg]
    rw [hb0]
    rw [List.all_cons]
    cases hv : difB C.par ps with
    | true => simp only [if_true, Bool.true_and]; exact ih
    | false => simp
theorem stands_id (f : Nat) (h : CloAt S A C) (pw : PW C.par) (hn : C.par.length ≤ 150) (hs : C.set = true) (hu : ∀ x ∈ C.unl, x < C.par.length) (hul : C.unl.length ≤ 150) (hb : ∀ ps ∈ C.bar, ∀ q ∈ ps, q.1 < C.par.length ∧ q.2 < C.par.length) {S0 : Sto}
    (e1 : calls (f + 3) .Closure_settle S0 [.hdl A.c] = .ok .non S) (hm : ∃ C0, CloAt S0 A C0) : calls (f + 4) .Closure_stands S0 [.hdl A.c] = .ok (.bl (stB C)) S := by
  obtain ⟨C0, hm⟩ := hm
  rw [ev_Closure_stands, fb_Closure_stands]
  have m1 := fun fa => meth_c (m := "settle") (g := calls (f + 3) .Closure_settle) (fa := fa) (e := [.va (.hdl A.c), .no, .no, .no]) hm
  have rt := roots_ok (f + 2) h pw hn 0 3 (e := [.va (.hdl A.c), .no, .no, .no]) (by decide) rfl (show 3 < 4 by decide) C.unl hu
  have fu := fld_u h
  have fb := fld_b h
  have hlen : (nsD (C.unl.map (rootOf C.par))).length ≤ 16777216 := by rw [nsD_len, List.length_map]; omega
  have s1 : sAsg 1 (eFrz (fLc (iSq (eFld "Closure" "unlike" (eVar 0))) (gN 3) tTrue (eMeth "Closure" "root" [] (calls (f + 3) .Closure_root) (eVar 0) (aCons (eVar 3) aNil)) [3])) [.va (.hdl A.c), .no, .no, .no] S = .nx [.va (.hdl A.c), .va (.lst (nsD (C.unl.map (rootOf C.par)))), .no, .no] S := by
    have rt2 := rt
    generalize eMeth "Closure" "root" [] (calls (f + 3) .Closure_root) (eVar 0) (aCons (eVar 3) aNil) = w at *
    generalize nsD (C.unl.map (rootOf C.par)) = z at *
    generalize nsD C.unl = z2 at *
    simp [iSq, fu, seqR, rt2, kLcEnd' _ _ hlen]
  have li := lenSetIK_ok S (icast (C.unl.map (rootOf C.par))) (by unfold icast; simp; omega)
  rw [← nsD_icast] at li
  have hlt := srt_lt_iff (icast (C.unl.map (rootOf C.par)))
  rw [icast_nodup] at hlt
  have il : (icast (C.unl.map (rootOf C.par))).length = (nsD (C.unl.map (rootOf C.par))).length := by rw [nsD_icast, List.length_map]
  rw [il] at hlt
  obtain ⟨y2, e3⟩ := st_loop (f + 1) h pw hn hs hb C.bar 0 (.lst (nsD (C.unl.map (rootOf C.par)))) .no .no rfl (Nat.zero_le _)
  have sq : sqO S A.b = some (C.bar.map brD) := by unfold sqO; simp only [h.b]
  have kf : kForH (gN 2) (fb_Closure_stands_l0 (calls (f + 3))) [.va (.hdl A.c), .va (.lst (nsD (C.unl.map (rootOf C.par)))), .no, .no] (.hdl A.b) S = forH A.b (gN 2) (fb_Closure_stands_l0 (calls (f + 3))) C.bar.length 0 [.va (.hdl A.c), .va (.lst (nsD (C.unl.map (rootOf C.par)))), .no, .no] S := by unfold kForH; simp only [sq, List.length_map]
  rw [e3] at kf
  have est : stB C = (decide ((C.unl.map (rootOf C.par)).Nodup) && C.bar.all (difB C.par)) := rfl
  generalize hw1 : sAsg 1 (eFrz (fLc (iSq (eFld "Closure" "unlike" (eVar 0))) (gN 3) tTrue (eMeth "Closure" "root" [] (calls (f + 3) .Closure_root) (eVar 0) (aCons (eVar 3) aNil)) [3])) = w1 at *
  clear hw1 rt e3 il
  generalize (TI.srtI (icast (C.unl.map (rootOf C.par)))).length = N at *
  generalize nsD (C.unl.map (rootOf C.par)) = z at *
  generalize fb_Closure_stands_l0 (calls (f + 3)) = w2 at *
  have hl : lenD S [.lst z] = some (.int z.length, S) := rfl
  rw [est]
  by_cases nd : (C.unl.map (rootOf C.par)).Nodup
  · have n1 : ¬ (N : Int) < (z.length : Int) := by
      intro q
      exact (hlt.mp (by omega)) nd
    cases hv : C.bar.all (difB C.par) with
    | true => simp [m1, e1, s1, li, hl, n1, fb, kf, hv, nd]
    | false => simp [m1, e1, s1, li, hl, n1, fb, kf, hv, nd]
  · have n1 : (N : Int) < (z.length : Int) := by
      have := hlt.mpr nd
      omega
    simp [m1, e1, s1, li, hl, n1, nd]
end
end DL
namespace DL
open PySem L2
/-- small enough -/
structure CB (C : CS) : Prop where
  kl : ∀ q ∈ C.kno, q.2.1.length < 10000
  kn : C.kno.length < 5000
  bn : C.bar.length < 5000
  ul : C.unl.length ≤ 150
section
variable {S : Sto} {A : CA} {C : CS} {n : Nat} {F : List Fact}
theorem CI.bin (ci : CI n F C) : ∀ ps ∈ C.bar, ∀ q ∈ ps, q.1 < C.par.length ∧ q.2 < C.par.length := fun ps hps q hq => by
  rw [ci.bar] at hps
  rw [ci.len]
  exact ci.fin _ (mem_barsOf.mp hps) q hq
theorem stands_ok (f : Nat) (hn : n ≤ 150) (h : CloAt S A C) (ci : CI n F C) (cb : CB C) (lt : ∀ i ∈ A.ids, i < S.length) :
    ∃ S', calls (f + 4) .Closure_stands S [.hdl A.c] = .ok (.bl (stB (stl (n + 1) C))) S' ∧ CloAt S' A (stl (n + 1) C) ∧ Off [A.c, A.p] S S' := by
  obtain ⟨S', e, c, o⟩ := settle_ok f hn h ci cb.kl cb.kn lt
  have ci2 := ci_settle ci (n + 1)
  refine ⟨S', ?_, c, o⟩
  exact stands_id f c ci2.pw (by rw [ci2.len]; exact hn) (stl_set ci (Nat.le_refl n)) (by rw [ci2.len]; exact ci2.uin) cb.ul ci2.bin e ⟨C, h⟩
def smB (C : CS) (a b : Nat) : Bool := !stB C || decide (rootOf C.par a = rootOf C.par b)
theorem same_ok (f : Nat) (hn : n ≤ 150) (h : CloAt S A C) (ci : CI n F C) (cb : CB C) (lt : ∀ i ∈ A.ids, i < S.length) {a b : Nat} (ha : a < n) (hb : b < n) :
    ∃ S', calls (f + 5) .Closure_same S [.hdl A.c, .int (a : Int), .int (b : Int)] = .ok (.bl (smB (stl (n + 1) C) a b)) S' ∧ CloAt S' A (stl (n + 1) C) ∧ Off [A.c, A.p] S S' := by
  obtain ⟨S', e, c, o⟩ := stands_ok f hn h ci cb lt
  have ci2 := ci_settle ci (n + 1)
  refine ⟨S', ?_, c, o⟩
  have ra := root_ok (f + 3) c ci2.pw (by rw [ci2.len]; exact ha) (by rw [ci2.len]; exact hn)
  have rb := root_ok (f + 3) c ci2.pw (by rw [ci2.len]; exact hb) (by rw [ci2.len]; exact hn)
  have m0 := fun fa => meth_c (m := "stands") (g := calls (f + 4) .Closure_stands) (fa := fa) (e := [.va (.hdl A.c), .va (.int (a : Int)), .va (.int (b : Int))]) h
  have m1 := fun fa => meth_c (m := "root") (g := calls (f + 4) .Closure_root) (fa := fa) (e := [.va (.hdl A.c), .va (.int (a : Int)), .va (.int (b : Int))]) c
  rw [ev_Closure_same, fb_Closure_same]
  unfold smB
  generalize stl (n + 1) C = D at *
  cases hs : stB D with
  | false => simp [m0, e, hs]
  | true =>
    by_cases q : rootOf D.par a = rootOf D.par b
    · simp [m0, m1, e, hs, ra, rb, q]
    · have n1 : ¬ ((rootOf D.par a : Int) = (rootOf D.par b : Int)) := by omega
      simp [m0, m1, e, hs, ra, rb, q, n1]
theorem told_ok (h : CloAt S A C) {e : Env} (h0 : e[0]? = some (.va (.hdl A.c))) : sAugF addI "Closure" "told" (eVar 0) (eC (.int 1)) e S = .nx e (S.set A.c (insC A.p A.k A.b { C with told := C.told + 1 })) := by
  rw [augF_ok (k := A.c) (S1 := S) (S2 := S) (x := .int (C.told : Int)) (y := .int 1) (z := .int ((C.told + 1 : Nat) : Int)) (fs := fsC A.p A.k A.b C) (by simp [h0]) h.c rfl rfl (by rfl) h.c (show (6 : Nat) < 1000 by decide), fsC_told]; rfl
theorem join_ok (f : Nat) (hn : n ≤ 150) (h : CloAt S A C) (ci : CI n F C) {a b : Nat} (ha : a < n) (hb : b < n) :
    ∃ S', calls (f + 3) .Closure_join S [.hdl A.c, .int (a : Int), .int (b : Int)] = .ok .non S' ∧ CloAt S' A (tJ C a b) ∧ Off [A.c, A.p] S S' := by
  have e1 := told_ok h (e := [.va (.hdl A.c), .va (.int (a : Int)), .va (.int (b : Int))]) rfl
  have h1 := h.setT (C.told + 1)
  obtain ⟨S', e2, c2, o2, _⟩ := merge_ok f h1 ci.pw (a := a) (b := b) (by show a < C.par.length; rw [ci.len]; exact ha) (by show b < C.par.length; rw [ci.len]; exact hb) (by show C.par.length ≤ 150; rw [ci.len]; exact hn)
  refine ⟨S', ?_, c2, (Off.set (by simp)).trans o2⟩
  have m1 := fun fa => meth_c (m := "merge") (g := calls (f + 2) .Closure_merge) (fa := fa) (e := [.va (.hdl A.c), .va (.int (a : Int)), .va (.int (b : Int))]) h1
  rw [ev_Closure_join, fb_Closure_join]
  generalize S.set A.c (insC A.p A.k A.b { C with told := C.told + 1 }) = S1 at *
  generalize sAugF addI "Closure" "told" (eVar 0) (eC (.int 1)) = w at *
  simp [e1, m1, e2]
theorem row_ok (f : Nat) (h : CloAt S A C) (cb : CB C) {g : Str} {as : List Nat} {v : Nat} {d : Dv} (hd : ∀ S', Off [A.c] S S' → tupleD S' [d] = some (.tup (nsD as), S')) :
    ∃ S', calls (f + 1) .Closure_row S [.hdl A.c, .str g, d, .int (v : Int)] = .ok .non S' ∧ CloAt S' A (tR C g as v) ∧ Off [A.c, A.k] S S' := by
  have e1 := told_ok h (e := [.va (.hdl A.c), .va (.str g), .va d, .va (.int (v : Int))]) rfl
  have h1 := h.setT (C.told + 1)
  have o1 : Off [A.c] S (S.set A.c (insC A.p A.k A.b { C with told := C.told + 1 })) := Off.set (by simp)
  have ht := hd _ o1
  have h2 := h1.setK (C.kno ++ [(g, as, v)])
  have e3 := sets_ok h2 false (e := [.va (.hdl A.c), .va (.str g), .va d, .va (.int (v : Int))]) rfl
  have h3 := h2.setS false
  have fk := fld_k h1
  have kn := cb.kn
  have ap := hdlM_app (S.set A.c (insC A.p A.k A.b { C with told := C.told + 1 })) (.tup [.str g, .tup (nsD as), .int (v : Int)]) (C.kno.map rwD) A.k h1.k (by rw [List.length_map, sizeLine_eq]; omega)
  have em : C.kno.map rwD ++ [.tup [.str g, .tup (nsD as), .int (v : Int)]] = (C.kno ++ [(g, as, v)]).map rwD := by simp [rwD]
  rw [em] at ap
  have hk := h1.k
  refine ⟨_, ?_, h3, (o1.mono (by simp)).trans ((Off.set (by simp)).trans (Off.set (by simp)))⟩
  rw [ev_Closure_row, fb_Closure_row]
  generalize S.set A.c (insC A.p A.k A.b { C with told := C.told + 1 }) = S1 at *
  generalize S1.set A.k (.lst ((C.kno ++ [(g, as, v)]).map rwD)) = S2 at *
  generalize sAugF addI "Closure" "told" (eVar 0) (eC (.int 1)) = w at *
  generalize sFldH "Closure" "settled" (eVar 0) (eC (.bl false)) = w2 at *
  generalize nsD as = z at *
  simp [e1, fk, hk, ht, ap, e3]
theorem facts_ok (f : Nat) (h : CloAt S A C) : calls (f + 1) .Closure_facts S [.hdl A.c] = .ok (.int (C.told : Int)) S := by
  rw [ev_Closure_facts, fb_Closure_facts]
  simp [fld_t h]
end
end DL
namespace DL
open PySem L2
def pqL (q : Nat × Nat) : Dv := .lst [.int (q.1 : Int), .int (q.2 : Int)]
theorem noH_br (ps : List (Nat × Nat)) : noH (brD ps) = true := by
  show noHs (ps.map pqD) = true
  induction ps with
  | nil => rfl
  | cons q ps ih => simp only [List.map_cons, noHs, ih, Bool.and_true]; rfl
theorem pure_br (ps : List (Nat × Nat)) : pureD (brD ps) = true := by
  show pureDs (ps.map pqD) = true
  induction ps with
  | nil => rfl
  | cons q ps ih => simp only [List.map_cons, pureDs, ih, Bool.and_true]; rfl
/-- data that stand for pairs once the handles are frozen -/
def PrT (S : Sto) (d : Dv) (ps : List (Nat × Nat)) : Prop := thaw 30 S d = some (.tup (ps.map pqD)) ∨ thaw 30 S d = some (.lst (ps.map pqL))
theorem prT_tup (S : Sto) (ps : List (Nat × Nat)) : PrT S (brD ps) ps := .inl (by
  unfold thaw
  rw [if_pos (noH_br ps)]; rfl)
def tPr : DL := fLc (iSq (eVar 1)) (gTL (gsCons (gN 2) (gsCons (gN 3) gsNil))) tTrue (eTup (aCons (eVar 2) (aCons (eVar 3) aNil))) [2, 3]
theorem lc_pr (g : Nat × Nat → Dv) (hg : ∀ q e, gTL (gsCons (gN 2) (gsCons (gN 3) gsNil)) (g q) e = some ((e.set 2 (.va (.int (q.1 : Int)))).set 3 (.va (.int (q.2 : Int))))) (x0 x1 : Sl) : ∀ ps : List (Nat × Nat), lcR (gTL (gsCons (gN 2) (gsCons (gN 3) gsNil))) tTrue (eTup (aCons (eVar 2) (aCons (eVar 3) aNil))) [x0, x1, .no, .no] (ps.map g) [] = .ok (ps.map pqD) []
  | [] => rfl
  | q :: ps => by
    have ih := lc_pr g hg x0 x1 ps
    rw [List.map_cons, List.map_cons]
    refine lcR_t (e1 := [x0, x1, .va (.int (q.1 : Int)), .va (.int (q.2 : Int))]) (S1 := []) (S2 := []) (by rw [hg]; rfl) rfl ?_ ih
    simp [pqD]
section
variable {S : Sto} {A : CA} {C : CS}
theorem lend_ok (h : CloAt S A C) {d : Dv} {ps : List (Nat × Nat)} (hd : PrT S d ps) (hl : ps.length < 10000) : eLend (eCB tupleD (aCons (eFrz tPr) aNil)) [.va (.hdl A.c), .va d, .no, .no] S = .ok (brD ps) S := by
  have tc : thaw 30 S (.hdl A.c) = none := by
    unfold thaw sqO
    simp only [noH, Bool.false_eq_true, if_false, h.c, insC]; rfl
  have hlen : (ps.map pqD).length ≤ 16777216 := by rw [List.length_map]; omega
  rw [ev_lend]
  rcases hd with hd | hd
  · have te : thawE S [.va (.hdl A.c), .va d, .no, .no] = [.no, .va (.tup (ps.map pqD)), .no, .no] := by
      unfold thawE thawV
      simp only [List.map_cons, List.map_nil, tc, hd]
    have lc := lc_pr pqD (fun q e => rfl) .no (.va (.tup (ps.map pqD))) ps
    rw [te]
    have ev : eCB tupleD (aCons (eFrz tPr) aNil) [.no, .va (.tup (ps.map pqD)), .no, .no] [] = .ok (brD ps) [] := by
      unfold tPr brD
      generalize gTL (gsCons (gN 2) (gsCons (gN 3) gsNil)) = gg at *
      generalize ps.map pqD = z at *
      simp [lc, kLcEnd' _ _ hlen]
    rw [ev, kLend_ok (pure_br ps)]
  · have te : thawE S [.va (.hdl A.c), .va d, .no, .no] = [.no, .va (.lst (ps.map pqL)), .no, .no] := by
      unfold thawE thawV
      simp only [List.map_cons, List.map_nil, tc, hd]
    have lc := lc_pr pqL (fun q e => rfl) .no (.va (.lst (ps.map pqL))) ps
    rw [te]
    have ev : eCB tupleD (aCons (eFrz tPr) aNil) [.no, .va (.lst (ps.map pqL)), .no, .no] [] = .ok (brD ps) [] := by
      unfold tPr brD
      generalize gTL (gsCons (gN 2) (gsCons (gN 3) gsNil)) = gg at *
      generalize ps.map pqD = z at *
      generalize ps.map pqL = z2 at *
      simp [lc, kLcEnd' _ _ hlen]
    rw [ev, kLend_ok (pure_br ps)]
theorem not_all_ok (f : Nat) (h : CloAt S A C) (cb : CB C) {d : Dv} {ps : List (Nat × Nat)} (hl : ps.length < 10000) (hd : ∀ S', Off [A.c] S S' → PrT S' d ps) :
    ∃ S', calls (f + 1) .Closure_not_all S [.hdl A.c, d] = .ok .non S' ∧ CloAt S' A (tB C ps) ∧ Off [A.c, A.b] S S' := by
  have e1 := told_ok h (e := [.va (.hdl A.c), .va d, .no, .no]) rfl
  have h1 := h.setT (C.told + 1)
  have o1 : Off [A.c] S (S.set A.c (insC A.p A.k A.b { C with told := C.told + 1 })) := Off.set (by simp)
  have le := lend_ok h1 (hd _ o1) hl
  have h2 := h1.setB (C.bar ++ [ps])
  have fb := fld_b h1
  have bn := cb.bn
  have ap := hdlM_app (S.set A.c (insC A.p A.k A.b { C with told := C.told + 1 })) (brD ps) (C.bar.map brD) A.b h1.b (by rw [List.length_map, sizeLine_eq]; omega)
  have em : C.bar.map brD ++ [brD ps] = (C.bar ++ [ps]).map brD := by simp
  rw [em] at ap
  have hb := h1.b
  refine ⟨_, ?_, h2, (o1.mono (by simp)).trans (Off.set (by simp))⟩
  rw [ev_Closure_not_all, fb_Closure_not_all]
  change kRun (sSeq _ (sExpr (eHdlM appD _ (aCons (eLend (eCB tupleD (aCons (eFrz tPr) aNil))) aNil))) _ _) = _
  generalize eLend (eCB tupleD (aCons (eFrz tPr) aNil)) = w3 at *
  generalize S.set A.c (insC A.p A.k A.b { C with told := C.told + 1 }) = S1 at *
  generalize S1.set A.b (.lst ((C.bar ++ [ps]).map brD)) = S2 at *
  generalize sAugF addI "Closure" "told" (eVar 0) (eC (.int 1)) = w at *
  generalize brD ps = z at *
  simp [e1, fb, hb, le, ap]
end
def A0 (L : Nat) : CA := ⟨L, L + 1, L + 2, L + 3⟩
theorem rng_nsD (n : Nat) : rngD 0 n = nsD (List.range n) := by
  unfold rngD nsD
  congr 1
  funext i
  simp
theorem init_ok (f : Nat) (S : Sto) (n : Nat) (hn : n < 1000000) {u : List Nat} {d : Dv} (hd : ∀ S', Off [] S S' → listD S' [d] = some (.lst (nsD u), S')) :
    ∃ S', calls (f + 1) .Closure_init (S ++ [.ins "Closure" []]) [.hdl S.length, .int (n : Int), d] = .ok .non S' ∧ CloAt S' (A0 S.length) (C0 n u) ∧ Off [] S S' ∧ S'.length = S.length + 4 := by
  let L := S.length
  let e0 : Env := [.va (.hdl L), .va (.int (n : Int)), .va d]
  have at0 : ∀ (o : Ob) (G : Sto), (S ++ o :: G)[L]? = some o := fun o G => by simp [L]
  have st0 : ∀ (o o' : Ob) (G : Sto), (S ++ o :: G).set L o' = S ++ o' :: G := fun o o' G => by simp [L, List.set_append_right]
  have ll : ∀ (G : Sto), (S ++ G).length = L + G.length := fun G => by simp [L]
  have s1 : sFldH "Closure" "parents" (eVar 0) (eNew (fRng (eVar 1))) e0 (S ++ [.ins "Closure" []]) = .nx e0 (S ++ [.ins "Closure" [("parents", .hdl (L + 1))], .lst (nsD (List.range n))]) := by
    refine fldH_ok (v := .hdl (L + 1)) (o := .hdl L) (S1 := S ++ [.ins "Closure" [], .lst (nsD (List.range n))]) (S2 := S ++ [.ins "Closure" [], .lst (nsD (List.range n))]) ?_ rfl ?_
    · have rk : rngK1 (.int (n : Int)) (S ++ [.ins "Closure" []]) = .ok (nsD (List.range n)) (S ++ [.ins "Closure" []]) := by
        unfold rngK1
        show (if 0 ≤ (n : Int) ∧ (n : Int) ≤ 16777216 then _ else _) = _
        rw [if_pos (by omega), Int.toNat_natCast, rng_nsD]
      generalize nsD (List.range n) = z at *
      simp [e0, fRng, rk, L]
    · rw [setF_ok (at0 _ _) (by simp), st0]; rfl
  have s2 : sFldH "Closure" "unlike" (eVar 0) (eCB listD (aCons (eVar 2) aNil)) e0 (S ++ [.ins "Closure" [("parents", .hdl (L + 1))], .lst (nsD (List.range n))]) = .nx e0 (S ++ [.ins "Closure" [("parents", .hdl (L + 1)), ("unlike", .lst (nsD u))], .lst (nsD (List.range n))]) := by
    refine fldH_ok (v := .lst (nsD u)) (o := .hdl L) (S1 := S ++ [.ins "Closure" [("parents", .hdl (L + 1))], .lst (nsD (List.range n))]) (S2 := S ++ [.ins "Closure" [("parents", .hdl (L + 1))], .lst (nsD (List.range n))]) ?_ rfl ?_
    · have hl := hd _ (Off.app [] S [.ins "Closure" [("parents", .hdl (L + 1))], .lst (nsD (List.range n))])
      generalize nsD (List.range n) = z at *
      generalize nsD u = z2 at *
      simp [e0, hl]
    · rw [setF_ok (at0 _ _) (by simp), st0]; rfl
  have s3 : sFldH "Closure" "known" (eVar 0) (eNew (fLst aNil)) e0 (S ++ [.ins "Closure" [("parents", .hdl (L + 1)), ("unlike", .lst (nsD u))], .lst (nsD (List.range n))]) = .nx e0 (S ++ [.ins "Closure" [("parents", .hdl (L + 1)), ("unlike", .lst (nsD u)), ("known", .hdl (L + 2))], .lst (nsD (List.range n)), .lst []]) := by
    refine fldH_ok (v := .hdl (L + 2)) (o := .hdl L) (S1 := S ++ [.ins "Closure" [("parents", .hdl (L + 1)), ("unlike", .lst (nsD u))], .lst (nsD (List.range n)), .lst []]) (S2 := S ++ [.ins "Closure" [("parents", .hdl (L + 1)), ("unlike", .lst (nsD u))], .lst (nsD (List.range n)), .lst []]) ?_ rfl ?_
    · generalize nsD (List.range n) = z at *
      simp [e0, L]
    · rw [setF_ok (at0 _ _) (by simp), st0]; rfl
  have s4 : sFldH "Closure" "bars" (eVar 0) (eNew (fLst aNil)) e0 (S ++ [.ins "Closure" [("parents", .hdl (L + 1)), ("unlike", .lst (nsD u)), ("known", .hdl (L + 2))], .lst (nsD (List.range n)), .lst []]) = .nx e0 (S ++ [.ins "Closure" [("parents", .hdl (L + 1)), ("unlike", .lst (nsD u)), ("known", .hdl (L + 2)), ("bars", .hdl (L + 3))], .lst (nsD (List.range n)), .lst [], .lst []]) := by
    refine fldH_ok (v := .hdl (L + 3)) (o := .hdl L) (S1 := S ++ [.ins "Closure" [("parents", .hdl (L + 1)), ("unlike", .lst (nsD u)), ("known", .hdl (L + 2))], .lst (nsD (List.range n)), .lst [], .lst []]) (S2 := S ++ [.ins "Closure" [("parents", .hdl (L + 1)), ("unlike", .lst (nsD u)), ("known", .hdl (L + 2))], .lst (nsD (List.range n)), .lst [], .lst []]) ?_ rfl ?_
    · generalize nsD (List.range n) = z at *
      simp [e0, L]
    · rw [setF_ok (at0 _ _) (by simp), st0]; rfl
  have s5 : sFldH "Closure" "told" (eVar 0) (eC (.int 0)) e0 (S ++ [.ins "Closure" [("parents", .hdl (L + 1)), ("unlike", .lst (nsD u)), ("known", .hdl (L + 2)), ("bars", .hdl (L + 3))], .lst (nsD (List.range n)), .lst [], .lst []]) = .nx e0 (S ++ [.ins "Closure" [("parents", .hdl (L + 1)), ("unlike", .lst (nsD u)), ("known", .hdl (L + 2)), ("bars", .hdl (L + 3)), ("told", .int 0)], .lst (nsD (List.range n)), .lst [], .lst []]) := by
    refine fldH_ok (v := .int 0) (o := .hdl L) (S1 := _) (S2 := _) rfl rfl ?_
    rw [setF_ok (at0 _ _) (by simp), st0]; rfl
  have s6 : sFldH "Closure" "settled" (eVar 0) (eC (.bl true)) e0 (S ++ [.ins "Closure" [("parents", .hdl (L + 1)), ("unlike", .lst (nsD u)), ("known", .hdl (L + 2)), ("bars", .hdl (L + 3)), ("told", .int 0)], .lst (nsD (List.range n)), .lst [], .lst []]) = .nx e0 (S ++ [insC (L + 1) (L + 2) (L + 3) (C0 n u), .lst (nsD (List.range n)), .lst [], .lst []]) := by
    refine fldH_ok (v := .bl true) (o := .hdl L) (S1 := _) (S2 := _) rfl rfl ?_
    rw [setF_ok (at0 _ _) (by simp), st0]; rfl
  refine ⟨S ++ [insC (L + 1) (L + 2) (L + 3) (C0 n u), .lst (nsD (List.range n)), .lst [], .lst []], ?_, ?_, Off.app _ _ _, by simp [L]⟩
  · rw [ev_Closure_init, fb_Closure_init]
    show kRun (sSeq _ _ e0 _) = _
    generalize sFldH "Closure" "parents" (eVar 0) (eNew (fRng (eVar 1))) = w1 at *
    generalize sFldH "Closure" "unlike" (eVar 0) (eCB listD (aCons (eVar 2) aNil)) = w2 at *
    generalize sFldH "Closure" "known" (eVar 0) (eNew (fLst aNil)) = w3 at *
    generalize sFldH "Closure" "bars" (eVar 0) (eNew (fLst aNil)) = w4 at *
    generalize sFldH "Closure" "told" (eVar 0) (eC (.int 0)) = w5 at *
    generalize sFldH "Closure" "settled" (eVar 0) (eC (.bl true)) = w6 at *
    simp [s1, s2, s3, s4, s5, s6]
  · refine ⟨?_, ?_, ?_, ?_, ?_, ?_, ?_, ?_, ?_, ?_⟩ <;> simp [A0, L, C0]
end DL
namespace DL
open PySem L2
def TakeF (f b : Nat) : Prop := ∀ S, BagAt S b → ∀ n : Int, 0 < n → n < 1073741824 → ∃ r o, calls f .l_take S [.hdl b, .int n] = .ok (.int r) (S.set b o) ∧ 0 ≤ r ∧ r < n ∧ BagOk o
theorem takeF (f b : Nat) : TakeF (f + 1) b := fun S h n h1 h2 => take_ok f h h1 h2
theorem takeF' {f : Nat} (b : Nat) (h : 1 ≤ f) : TakeF f b := by
  obtain ⟨g, rfl⟩ : ∃ g, f = g + 1 := ⟨f - 1, by omega⟩
  exact takeF g b
theorem atI_r {γ : Type} {l : List γ} {r : Int} (h0 : 0 ≤ r) (h1 : r < l.length) : ∃ d, atI l r = some d ∧ d ∈ l := by
  have hr : r.toNat < l.length := by omega
  exact ⟨l[r.toNat], by unfold atI; rw [ixN_ok h0 h1]; simp [hr], List.getElem_mem hr⟩
theorem one_ok {f b : Nat} (T : TakeF f b) {S : Sto} {l : List Dv} (hB : BagAt S b) (h0 : l ≠ []) (h1 : l.length < 1000000) : ∃ d o, calls (f + 1) .l_one S [.hdl b, .lst l] = .ok d (S.set b o) ∧ d ∈ l ∧ BagOk o := by
  have hl : 0 < l.length := List.length_pos_iff.mpr h0
  obtain ⟨r, o, e, r0, r1, ho⟩ := T S hB l.length (by omega) (by omega)
  obtain ⟨d, hd, hm⟩ := atI_r r0 r1
  exact ⟨d, o, by simp [ev_l_one, fb_l_one, e, hd], hm, ho⟩
def BU (b : Nat) (S S' : Sto) : Prop := ∃ o, S' = S.set b o ∧ BagOk o
theorem BU.get {b j : Nat} {S S' : Sto} (h : BU b S S') (hj : b ≠ j) : S'[j]? = S[j]? := by
  obtain ⟨o, rfl, _⟩ := h
  rw [List.getElem?_set, if_neg hj]
theorem BU.bag {b : Nat} {S S' : Sto} (h : BU b S S') (hb : BagAt S b) : BagAt S' b := by
  obtain ⟨o, rfl, ho⟩ := h
  exact hb.set ho
theorem BU.trans {b : Nat} {S S' S2 : Sto} (h : BU b S S') (g : BU b S' S2) : BU b S S2 := by
  obtain ⟨o, rfl, ho⟩ := h
  obtain ⟨u, rfl, hu⟩ := g
  exact ⟨u, by rw [List.set_set], hu⟩
theorem BU.refl {b : Nat} {S : Sto} (hb : BagAt S b) : BU b S S := by
  obtain ⟨o, h, ho⟩ := hb
  obtain ⟨h1, h2⟩ := List.getElem?_eq_some_iff.mp h
  exact ⟨o, by rw [← h2, List.set_getElem_self], ho⟩
theorem BU.len {b : Nat} {S S' : Sto} (h : BU b S S') : S'.length = S.length := by
  obtain ⟨o, rfl, _⟩ := h
  rw [List.length_set]
theorem takeU {f b : Nat} (hf : 1 ≤ f) {S : Sto} (hB : BagAt S b) {n : Int} (h1 : 0 < n) (h2 : n < 1073741824) : ∃ r S', calls f .l_take S [.hdl b, .int n] = .ok (.int r) S' ∧ BU b S S' ∧ 0 ≤ r ∧ r < n := by
  obtain ⟨r, o, e, r0, r1, ho⟩ := takeF' b hf S hB n h1 h2
  exact ⟨r, _, e, ⟨o, rfl, ho⟩, r0, r1⟩
theorem oneU {f b : Nat} (hf : 2 ≤ f) {S : Sto} (hB : BagAt S b) {l : List Dv} (h1 : l ≠ []) (h2 : l.length < 1000000) : ∃ d S', calls f .l_one S [.hdl b, .lst l] = .ok d S' ∧ BU b S S' ∧ d ∈ l := by
  obtain ⟨g, rfl⟩ : ∃ g, f = g + 1 := ⟨f - 1, by omega⟩
  obtain ⟨d, o, e, hd, ho⟩ := one_ok (takeF' b (show 1 ≤ g by omega)) hB h1 h2
  exact ⟨d, _, e, ⟨o, rfl, ho⟩, hd⟩
theorem mixed_d {α : Type} (en : α → Dv) {f b : Nat} (hf : 2 ≤ f) {S : Sto} (hB : BagAt S b) (xs : List α) (hl : xs.length ≤ 1000) : ∃ (ys : List α) (S' : Sto), calls f .l_mixed S [.hdl b, .lst (xs.map en)] = .ok (.lst (ys.map en)) S' ∧ BU b S S' ∧ ys.Perm xs := by
  obtain ⟨g, rfl⟩ : ∃ g, f = g + 1 := ⟨f - 1, by omega⟩
  show Wp (calls (g + 1) .l_mixed S [.hdl b, .lst (xs.map en)]) fun r0 => ∃ (ys : List α) (S' : Sto), r0 = .ok (.lst (ys.map en)) S' ∧ BU b S S' ∧ ys.Perm xs
  simp -implicitDefEqProofs only [ev_l_mixed, fb_l_mixed]
  simp -implicitDefEqProofs
  obtain ⟨J, hJ⟩ : ∃ J : List Dv → Env → Sto → Prop, ∀ l E S', J l E S' ↔ ∃ (acc ws : List α) (x3 : Sl), l = ws.map en ∧ (acc ++ ws).Perm xs ∧ BU b S S' ∧ E = [.va (.hdl b), .va (.lst (xs.map en)), .ow (acc.map en), x3] := ⟨_, fun _ _ _ => Iff.rfl⟩
  refine Wo_for J (xs.map en) ((hJ _ _ _).mpr ⟨[], xs, .no, rfl, List.Perm.refl _, BU.refl hB, rfl⟩) ?_ ?_
  · intro d l E S2 hj
    obtain ⟨acc, ws, x3, hw, hp, u, rfl⟩ := (hJ _ _ _).mp hj
    match ws, hw with
    | [], hw => cases hw
    | w :: ws, hw =>
      injection hw with h1 h2
      subst h1 h2
      refine ⟨_, rfl, ?_⟩
      have hlen : acc.length ≤ 1000 := by have := hp.length_eq; simp at this; omega
      obtain ⟨k, S3, e3, u3, k0, k1⟩ := takeU (show 1 ≤ g by omega) (u.bag hB) (n := (acc.length : Int) + 1) (by omega) (by omega)
      generalize hm : (acc.length : Int) = m at *
      have hm' : ((acc.map en).length : Int) = m := by rw [List.length_map]; exact hm
      have hq : ∀ (i : Nat) (e : Env) (S : Sto), qOwnM insD i (acc.map en) e [.int k, en w] S = .nx (e.set i (.ow ((acc.map en).take k.toNat ++ [en w] ++ (acc.map en).drop k.toNat))) S := fun i e S => qOwnM_ins S e (en w) (acc.map en) i k ⟨by rw [List.length_map, sizeLine_eq]; omega, k0, by omega⟩
      have hN : (acc.map en).take k.toNat ++ [en w] ++ (acc.map en).drop k.toNat = (acc.take k.toNat ++ w :: acc.drop k.toNat).map en := by simp
      rw [hN] at hq
      have hP : (acc.take k.toNat ++ w :: acc.drop k.toNat ++ ws).Perm xs := by
        refine List.Perm.trans ?_ hp
        have h1 : (acc.take k.toNat ++ w :: acc.drop k.toNat).Perm (w :: acc) := by
          have := List.perm_middle (a := w) (l₁ := acc.take k.toNat) (l₂ := acc.drop k.toNat)
          rwa [List.take_append_drop] at this
        exact (h1.append_right ws).trans List.perm_middle.symm
      generalize acc.take k.toNat ++ w :: acc.drop k.toNat = acc2 at *
      generalize hew : en w = d at *
      generalize acc.map en = am at *
      generalize xs.map en = sm at *
      simp -implicitDefEqProofs [fb_l_mixed_l0, hm', e3, hq]
      exact Wo_nx ((hJ _ _ _).mpr ⟨acc2, ws, _, rfl, hP, u.trans u3, rfl⟩)
  · intro E S2 hj
    obtain ⟨acc, ws, x3, hw, hp, u, rfl⟩ := (hJ _ _ _).mp hj
    match ws, hw with
    | w :: ws, hw => cases hw
    | [], _ =>
      rw [List.append_nil] at hp
      simp -implicitDefEqProofs
      exact ⟨acc, S2, rfl, u, hp⟩
end DL
namespace DL
open PySem L2
def fD : Fact → Dv
  | .join a b => .tup [.str "join", .int (a : Int), .int (b : Int)]
  | .row g as v => .tup [.str "row", .str g, .tup (nsD as), .int (v : Int)]
  | .bar ps => .tup [.str "not", brD ps]
def Fact.Sm : Fact → Prop
  | .join _ _ => True
  | .row _ as _ => as.length ≤ 4
  | .bar ps => ps.length ≤ 6
theorem takeN {f b : Nat} (hf : 1 ≤ f) {S : Sto} (hB : BagAt S b) {n : Nat} (h1 : 0 < n) (h2 : n < 1000000) : ∃ (a : Nat) (S' : Sto), calls f .l_take S [.hdl b, .int (n : Int)] = .ok (.int (a : Int)) S' ∧ BU b S S' ∧ a < n := by
  obtain ⟨r, S', e, u, r0, r1⟩ := takeU hf hB (n := (n : Int)) (by omega) (by omega)
  refine ⟨r.toNat, S', ?_, u, by omega⟩
  rw [e, Int.toNat_of_nonneg r0]
theorem draws_ok {f b : Nat} (hf : 1 ≤ f) {n : Nat} (h1 : 0 < n) (h2 : n < 1000000) {e : Env} {j : Nat} (hj : 2 ≤ j) (e0 : e[0]? = some (.va (.hdl b))) (e1 : e[1]? = some (.va (.int (n : Int)))) : ∀ (ds : List Dv) (S : Sto), BagAt S b →
    ∃ (as : List Nat) (S' : Sto), lcR (gN j) tTrue (eCall (calls f .l_take) (aCons (eVar 0) (aCons (eVar 1) aNil))) e ds S = .ok (nsD as) S' ∧ BU b S S' ∧ as.length = ds.length ∧ ∀ x ∈ as, x < n
  | [], S, hB => ⟨[], S, rfl, BU.refl hB, rfl, fun _ h => nomatch h⟩
  | d :: ds, S, hB => by
    obtain ⟨a, S1, t1, u1, a1⟩ := takeN hf hB h1 h2
    obtain ⟨as, S2, t2, u2, l2, a2⟩ := draws_ok hf h1 h2 hj e0 e1 ds S1 (u1.bag hB)
    have g0 : (e.set j (.va d))[0]? = some (.va (.hdl b)) := by rw [List.getElem?_set, if_neg (by omega)]; exact e0
    have g1 : (e.set j (.va d))[1]? = some (.va (.int (n : Int))) := by rw [List.getElem?_set, if_neg (by omega)]; exact e1
    refine ⟨a :: as, S2, ?_, u1.trans u2, by simp [l2], fun x hx => ?_⟩
    · show _ = Res.ok (.int (a : Int) :: nsD as) S2
      refine lcR_t (e1 := e.set j (.va d)) (S1 := S) (S2 := S1) rfl rfl ?_ t2
      simp [g0, g1, t1]
    · rcases List.mem_cons.mp hx with rfl | hx
      · exact a1
      · exact a2 x hx
theorem pairs_ok {f b : Nat} (hf : 1 ≤ f) {n : Nat} (h2 : n < 1000000) {e : Env} {j : Nat} (hj : 2 ≤ j) (e0 : e[0]? = some (.va (.hdl b))) (e1 : e[1]? = some (.va (.int (n : Int)))) : ∀ (ds : List Dv) (S : Sto), (ds = [] ∨ 0 < n) → BagAt S b →
    ∃ (ps : List (Nat × Nat)) (S' : Sto), lcR (gN j) tTrue (eTup (aCons (eCall (calls f .l_take) (aCons (eVar 0) (aCons (eVar 1) aNil))) (aCons (eCall (calls f .l_take) (aCons (eVar 0) (aCons (eVar 1) aNil))) aNil))) e ds S = .ok (ps.map pqD) S' ∧ BU b S S' ∧ ps.length = ds.length ∧ ∀ x ∈ ps, x.1 < n ∧ x.2 < n
  | [], S, _, hB => ⟨[], S, rfl, BU.refl hB, rfl, fun _ h => nomatch h⟩
  | d :: ds, S, h, hB => by
    have h1 : 0 < n := by rcases h with h | h; · cases h
                          · exact h
    obtain ⟨a, S1, t1, u1, a1⟩ := takeN hf hB h1 h2
    obtain ⟨c, S2, t2, u2, a2⟩ := takeN hf (u1.bag hB) h1 h2
    obtain ⟨ps, S3, t3, u3, l3, a3⟩ := pairs_ok hf h2 hj e0 e1 ds S2 (.inr h1) (u2.bag (u1.bag hB))
    have g0 : (e.set j (.va d))[0]? = some (.va (.hdl b)) := by rw [List.getElem?_set, if_neg (by omega)]; exact e0
    have g1 : (e.set j (.va d))[1]? = some (.va (.int (n : Int))) := by rw [List.getElem?_set, if_neg (by omega)]; exact e1
    refine ⟨(a, c) :: ps, S3, ?_, (u1.trans u2).trans u3, by simp [l3], fun x hx => ?_⟩
    · refine lcR_t (e1 := e.set j (.va d)) (S1 := S) (S2 := S2) rfl rfl ?_ t3
      simp [g0, g1, t1, t2, pqD]
    · rcases List.mem_cons.mp hx with rfl | hx
      · exact ⟨a1, a2⟩
      · exact a3 x hx
theorem pick_ok {l : List Nat} {k M : Nat} (hk : k < l.length) (hM : ∀ x ∈ l, x ≤ M) : ∃ m : Nat, atI (nsD l) (k : Int) = some (.int (m : Int)) ∧ m ≤ M := by
  refine ⟨l[k], ?_, hM _ (List.getElem_mem hk)⟩
  unfold atI
  rw [ixN_ok (by omega) (by rw [nsD_len]; omega)]
  simp [nsD, hk]
theorem kLstS (l : List Dv) (S : Sto) (h : l.length ≤ 16777216) : kLst l S = .ok l S := kLst_ok _ _ (by rw [sizeLine_eq]; exact h)
theorem fact_ok (f b : Nat) {S : Sto} (hB : BagAt S b) {n : Nat} (hn : n < 1000000) : ∃ (fa : Fact) (S' : Sto), calls (f + 3) .l_fact S [.hdl b, .int (n : Int)] = .ok (fD fa) S' ∧ BU b S S' ∧ fa.In n ∧ fa.Sm := by
  obtain ⟨w, S1, e1, u1, hw⟩ := takeN (f := f + 2) (by omega) hB (n := 5) (by omega) (by omega)
  have e1' : calls (f + 2) .l_take S [.hdl b, .int 5] = .ok (.int (w : Int)) S1 := e1
  have B1 := u1.bag hB
  by_cases hA : n = 0 ∨ w = 4
  · obtain ⟨k, S2, e2, u2, hk⟩ := takeN (f := f + 2) (by omega) B1 (n := 7) (by omega) (by omega)
    have e2' : calls (f + 2) .l_take S1 [.hdl b, .int 7] = .ok (.int (k : Int)) S2 := e2
    obtain ⟨m, em, hm⟩ := pick_ok (l := [1, 2, 1, 3, 2, 4, 0]) (k := k) (M := 4) hk (by decide)
    have em' : atI [Dv.int 1, .int 2, .int 1, .int 3, .int 2, .int 4, .int 0] (k : Int) = some (.int (m : Int)) := em
    obtain ⟨c, hc, hc4, hcn⟩ : ∃ c : Nat, (m : Int) * (if (0 : Int) < (n : Int) then 1 else 0) = (c : Int) ∧ c ≤ 4 ∧ (c = 0 ∨ 0 < n) := by
      by_cases h : 0 < n
      · exact ⟨m, by rw [if_pos (by omega)]; omega, hm, .inr h⟩
      · exact ⟨0, by rw [if_neg (by omega)]; omega, by omega, .inl rfl⟩
    obtain ⟨ps, S3, e3, u3, l3, a3⟩ := pairs_ok (f := f + 2) (b := b) (by omega) hn (e := [.va (.hdl b), .va (.int (n : Int)), .va (.int (w : Int)), .va (.int (c : Int)), .no, .no, .no]) (j := 6) (by omega) rfl rfl (rngD 0 c) S2 (by
      rcases hcn with h | h
      · subst h; exact .inl rfl
      · exact .inr h) (u2.bag B1)
    have lc : ps.length = c := by rw [l3]; simp [rngD]
    refine ⟨.bar ps, S3, ?_, (u1.trans u2).trans u3, a3, by show ps.length ≤ 6; omega⟩
    have hlen : (ps.map pqD).length ≤ 16777216 := by rw [List.length_map]; omega
    have rk := rngR1_ok S2 (c : Int) ⟨by omega, by omega⟩
    rw [Int.toNat_natCast] at rk
    have cond : (tOr' (tVal (eBin eqE (eVar 1) (eC (.int 0)))) (tVal (eBin eqE (eVar 2) (eC (.int 4))))) [.va (.hdl b), .va (.int (n : Int)), .va (.int (w : Int)), .no, .no, .no, .no] S1 = .ok true S1 := by
      by_cases h0 : n = 0
      · subst h0; simp
      · have hw4 : w = 4 := by rcases hA with h | h; · exact (h0 h).elim
                               · exact h
        subst hw4
        have n1 : ¬ ((n : Int) = 0) := by omega
        simp [n1, h0]
    have kl := kLstS [Dv.int 1, .int 2, .int 1, .int 3, .int 2, .int 4, .int 0] S1 (by simp)
    have hc' : (m : Int) * (if 0 < n then 1 else 0) = (c : Int) := by rw [← hc]; simp
    have pm : pu2 mulD S2 (.int (m : Int)) (.int (if 0 < n then 1 else 0)) = some (.int (c : Int), S2) := by
      rw [op_mul_i _ _ _ (.inl ⟨by omega, by omega⟩), hc']
    rw [ev_l_fact, fb_l_fact]
    show _ = Res.ok (Dv.tup [Dv.str "not", .tup (ps.map pqD)]) S3
    generalize tOr' (tVal (eBin eqE (eVar 1) (eC (.int 0)))) (tVal (eBin eqE (eVar 2) (eC (.int 4)))) = tt at *
    generalize eTup (aCons (eCall (calls (f + 2) .l_take) (aCons (eVar 0) (aCons (eVar 1) aNil))) (aCons (eCall (calls (f + 2) .l_take) (aCons (eVar 0) (aCons (eVar 1) aNil))) aNil)) = te at *
    generalize rngD 0 c = rd at *
    generalize ps.map pqD = z at *
    simp -implicitDefEqProofs [e1', cond, e2', em', intD2, pm, kl, rk, e3, kLcEnd' _ _ hlen]
  · have n0 : 0 < n := by omega
    have cond : (tOr' (tVal (eBin eqE (eVar 1) (eC (.int 0)))) (tVal (eBin eqE (eVar 2) (eC (.int 4))))) [.va (.hdl b), .va (.int (n : Int)), .va (.int (w : Int)), .no, .no, .no, .no] S1 = .ok false S1 := by
      have n1 : ¬ ((n : Int) = 0) := by omega
      have n2 : ¬ ((w : Int) = 4) := by omega
      have h0 : ¬ n = 0 := by omega
      have h4 : ¬ w = 4 := by omega
      simp [n1, n2, h0, h4]
    obtain ⟨a, S2, t1, u2, a1⟩ := takeN (f := f + 2) (by omega) B1 n0 hn
    obtain ⟨c, S3, t2, u3, c1⟩ := takeN (f := f + 2) (by omega) (u2.bag B1) n0 hn
    by_cases w0 : w = 0
    · subst w0
      refine ⟨.join a c, S3, ?_, (u1.trans u2).trans u3, ⟨a1, c1⟩, trivial⟩
      rw [ev_l_fact, fb_l_fact]
      show _ = Res.ok (Dv.tup [Dv.str "join", .int (a : Int), .int (c : Int)]) S3
      generalize tOr' (tVal (eBin eqE (eVar 1) (eC (.int 0)))) (tVal (eBin eqE (eVar 2) (eC (.int 4)))) = tt at *
      generalize eTup (aCons (eC (.str "not")) _) = t0
      have cond2 : tt [.va (.hdl b), .va (.int (n : Int)), .va (.int 0), .no, .no, .no, .no] S1 = .ok false S1 := cond
      simp -implicitDefEqProofs [e1', cond2, t1, t2]
    · have n3 : ¬ ((w : Int) = 0) := by omega
      obtain ⟨g, S4, t4, u4, hg⟩ := oneU (f := f + 2) (by omega) B1 (l := [.str "f", .str "f", .str "g", .str "", .str "f 0", .str "cell"]) (by simp) (by simp)
      have B4 := u4.bag B1
      obtain ⟨gs, rfl⟩ : ∃ gs : Str, g = .str gs := by
        simp only [List.mem_cons, List.not_mem_nil, or_false] at hg
        rcases hg with rfl | rfl | rfl | rfl | rfl | rfl <;> exact ⟨_, rfl⟩
      obtain ⟨k, S5, t5, u5, hk⟩ := takeN (f := f + 2) (by omega) B4 (n := 6) (by omega) (by omega)
      have t5' : calls (f + 2) .l_take S4 [.hdl b, .int 6] = .ok (.int (k : Int)) S5 := t5
      have B5 := u5.bag B4
      obtain ⟨m, em, hm⟩ := pick_ok (l := [1, 1, 2, 0, 3, 4]) (k := k) (M := 4) hk (by decide)
      have em' : atI [Dv.int 1, .int 1, .int 2, .int 0, .int 3, .int 4] (k : Int) = some (.int (m : Int)) := em
      obtain ⟨as, S6, t6, u6, l6, a6⟩ := draws_ok (f := f + 2) (b := b) (by omega) n0 hn (e := [.va (.hdl b), .va (.int (n : Int)), .va (.int (w : Int)), .no, .va (.str gs), .no, .no]) (j := 6) (by omega) rfl rfl (rngD 0 m) S5 B5
      have lm : as.length = m := by rw [l6]; simp [rngD]
      have B6 := u6.bag B5
      obtain ⟨v, S7, t7, u7, v7⟩ := takeN (f := f + 2) (by omega) B6 n0 hn
      refine ⟨.row gs as v, S7, ?_, ((((u1.trans u4).trans u5).trans u6).trans u7), ⟨a6, v7⟩, by show as.length ≤ 4; omega⟩
      have hlen : (nsD as).length ≤ 16777216 := by rw [nsD_len]; omega
      have rk := rngR1_ok S5 (m : Int) ⟨by omega, by omega⟩
      rw [Int.toNat_natCast] at rk
      have kl := kLstS [Dv.str "f", .str "f", .str "g", .str "", .str "f 0", .str "cell"] S1 (by simp)
      have kl2 := kLstS [Dv.int 1, .int 1, .int 2, .int 0, .int 3, .int 4] S4 (by simp)
      rw [ev_l_fact, fb_l_fact]
      show _ = Res.ok (Dv.tup [Dv.str "row", .str gs, .tup (nsD as), .int (v : Int)]) S7
      generalize tOr' (tVal (eBin eqE (eVar 1) (eC (.int 0)))) (tVal (eBin eqE (eVar 2) (eC (.int 4)))) = tt at *
      generalize eTup (aCons (eC (.str "not")) _) = t0
      generalize eTup (aCons (eC (.str "join")) _) = t1'
      have hw : ∃ te, te = eCall (calls (f + 2) .l_take) (aCons (eVar 0) (aCons (eVar 1) aNil)) := ⟨_, rfl⟩
      generalize rngD 0 m = rd at *
      generalize nsD as = z at *
      have w0' := w0
      simp -implicitDefEqProofs [e1', cond, n3, w0, kl, kl2, t4, t5', em', rk, t6, kLcEnd' _ _ hlen, t7]
end DL
namespace DL
open PySem L2
def tF (C : CS) : Fact → CS
  | .join a b => tJ C a b
  | .row g as v => tR C g as v
  | .bar ps => tB C ps
theorem ci_tell {n : Nat} {F : List Fact} {C : CS} (h : CI n F C) {fa : Fact} (hf : fa.In n) : CI n (F ++ [fa]) (tF C fa) := by
  cases fa with
  | join a b => exact ci_join h hf.1 hf.2
  | row g as v => exact ci_row h hf.1 hf.2
  | bar ps => exact ci_bar h hf
theorem BU.off {b : Nat} {S S' : Sto} (h : BU b S S') : Off [b] S S' := by
  obtain ⟨o, rfl, _⟩ := h
  exact Off.set (by simp)
theorem Off.setN {X : List Nat} {S S1 : Sto} (h : Off X S S1) {t : Nat} (ht : S.length ≤ t) (o : Ob) : Off X S (S1.set t o) := ⟨by rw [List.length_set]; exact h.len, fun i hi n => by rw [get_set_ne (by omega)]; exact h.at_ i hi n⟩
theorem Off.appR {X : List Nat} {S S1 : Sto} (h : Off X S S1) (G : Sto) : Off X S (S1 ++ G) := h.trans (Off.app X S1 G)
theorem BagAt.off {X : List Nat} {S S' : Sto} {b : Nat} (h : BagAt S b) (o : Off X S S') (n : b ∉ X) : BagAt S' b := by
  obtain ⟨x, hx, hb⟩ := h
  exact ⟨x, o.get hx n, hb⟩
theorem CloAt.lt {S : Sto} {A : CA} {C : CS} (h : CloAt S A C) : ∀ i ∈ A.ids, i < S.length := fun i hi => by
  simp only [CA.ids, List.mem_cons, List.not_mem_nil, or_false] at hi
  rcases hi with rfl | rfl | rfl | rfl
  · exact (List.getElem?_eq_some_iff.mp h.c).1
  · exact (List.getElem?_eq_some_iff.mp h.p).1
  · exact (List.getElem?_eq_some_iff.mp h.k).1
  · exact (List.getElem?_eq_some_iff.mp h.b).1
theorem s_rj : ¬ ((("row" : Str)) = "join") := by decide +kernel
theorem s_nj : ¬ ((("not" : Str)) = "join") := by decide +kernel
theorem s_nr : ¬ ((("not" : Str)) = "row") := by decide +kernel
section
variable {S : Sto} {A : CA} {C : CS} {n : Nat} {F : List Fact} {b : Nat}
theorem meth_cl {m : Str} {g : DF} {fa : DA} {e : Env} (h : CloAt S A C) (h2 : ((fsC A.p A.k A.b C).lookup m).isNone = true := by rfl) : kMeth "Closure" m [] g fa e (.hdl A.c) S = bnd (fa e S) (kMe2 [] g (.hdl A.c)) := meth_c h h2
theorem tell_join (f : Nat) (hn : n ≤ 150) (h : CloAt S A C) (ci : CI n F C) (hB : BagAt S b) (nb : b ∉ A.ids) {x y : Nat} (hx : x < n) (hy : y < n) :
    ∃ S', calls (f + 4) .l_tell S [.hdl b, .hdl A.c, fD (.join x y)] = .ok .non S' ∧ CloAt S' A (tJ C x y) ∧ BagAt S' b ∧ Off (b :: A.ids) S S' := by
  obtain ⟨w, S1, e1, u1, hw⟩ := takeN (f := f + 3) (by omega) hB (n := 2) (by omega) (by omega)
  have e1' : calls (f + 3) .l_take S [.hdl b, .int 2] = .ok (.int (w : Int)) S1 := e1
  have h1 : CloAt S1 A C := h.off u1.off fun i hi z => nb (by simp at z; rw [← z]; exact hi)
  obtain ⟨S2, e2, c2, o2⟩ := join_ok f hn h1 ci hx hy
  refine ⟨S2, ?_, c2, (u1.bag hB).off o2 (fun z => nb (by simp at z; simp [CA.ids]; omega)), (u1.off.mono (by simp)).trans (o2.mono (by simp [CA.ids]))⟩
  have m1 := fun fa e => meth_cl (m := "join") (g := calls (f + 3) .Closure_join) (fa := fa) (e := e) h1
  rw [ev_l_tell, fb_l_tell]
  unfold fD
  simp -implicitDefEqProofs [e1', m1, e2]
theorem tell_row (f : Nat) (h : CloAt S A C) (cb : CB C) (hB : BagAt S b) (nb : b ∉ A.ids) {g : Str} {as : List Nat} {v : Nat} (hl : as.length < 10000) :
    ∃ S', calls (f + 2) .l_tell S [.hdl b, .hdl A.c, fD (.row g as v)] = .ok .non S' ∧ CloAt S' A (tR C g as v) ∧ BagAt S' b ∧ Off (b :: A.ids) S S' := by
  obtain ⟨w, S1, e1, u1, hw⟩ := takeN (f := f + 1) (by omega) hB (n := 2) (by omega) (by omega)
  have e1' : calls (f + 1) .l_take S [.hdl b, .int 2] = .ok (.int (w : Int)) S1 := e1
  have B1 := u1.bag hB
  have h1 : CloAt S1 A C := h.off u1.off fun i hi z => nb (by simp at z; rw [← z]; exact hi)
  have h2 := h1.app [.lst (nsD as)]
  have lt1 := h1.lt
  have hlt : ∀ i ∈ A.ids, i ≠ S1.length := fun i hi => by have := lt1 i hi; omega
  have ht : (S1 ++ [Ob.lst (nsD as)])[S1.length]? = some (.lst (nsD as)) := by simp
  have key : ∀ d : Dv, (d = .hdl S1.length ∨ d = .tup (nsD as)) → ∃ S3, calls (f + 1) .Closure_row (S1 ++ [Ob.lst (nsD as)]) [.hdl A.c, .str g, d, .int (v : Int)] = .ok .non S3 ∧ CloAt S3 A (tR C g as v) ∧ Off [A.c, A.k] (S1 ++ [Ob.lst (nsD as)]) S3 := fun d hd => by
    refine row_ok f h2 cb fun S' o => ?_
    rcases hd with rfl | rfl
    · have := o.get ht (by simp; exact fun z => hlt A.c (by simp [CA.ids]) z.symm)
      unfold tupleD asQ
      simp only [asT, asL, this, Option.map_some]
    · rfl
  obtain ⟨d, hd, S3, e3, c3, o3⟩ : ∃ d : Dv, d = (if w = 0 then .hdl S1.length else .tup (nsD as)) ∧ ∃ S3, calls (f + 1) .Closure_row (S1 ++ [Ob.lst (nsD as)]) [.hdl A.c, .str g, d, .int (v : Int)] = .ok .non S3 ∧ CloAt S3 A (tR C g as v) ∧ Off [A.c, A.k] (S1 ++ [Ob.lst (nsD as)]) S3 := by
    refine ⟨_, rfl, key _ ?_⟩
    by_cases h0 : w = 0
    · rw [if_pos h0]; exact .inl rfl
    · rw [if_neg h0]; exact .inr rfl
  have nt : S1.length ∉ [A.c, A.k] := fun z => by
    simp only [List.mem_cons, List.not_mem_nil, or_false] at z
    rcases z with z | z
    · exact hlt A.c (by simp [CA.ids]) z.symm
    · exact hlt A.k (by simp [CA.ids]) z.symm
  have t3 := o3.get ht nt
  have ap := hdlM_app S3 (.int 0) (nsD as) S1.length t3 (by rw [nsD_len, sizeLine_eq]; omega)
  have t4 : (S3.set S1.length (.lst (nsD as ++ [.int 0])))[S1.length]? = some (.lst (nsD as ++ [.int 0])) := get_set_eq t3
  have cp := cutPut_1 (S3.set S1.length (.lst (nsD as ++ [.int 0]))) S1.length (m := [.int 0]) t4 (by simp [nsD_len]; omega)
  have off3 : Off (b :: A.ids) S S3 := ((u1.off.mono (by simp)).appR _).trans (o3.mono (by simp [CA.ids]))
  have l1 : S.length ≤ S1.length := u1.off.len
  have offF : ∀ o o' : Ob, Off [S1.length] S3 ((S3.set S1.length o).set S1.length o') := fun o o' => (Off.set (by simp)).trans (Off.set (by simp))
  refine ⟨(S3.set S1.length (.lst (nsD as ++ [.int 0]))).set S1.length (.lst ([Dv.int 0] ++ (nsD as ++ [Dv.int 0]).drop 1)), ?_, c3.off (offF _ _) (fun i hi z => hlt i hi (by simpa using z)), ?_, (off3.setN l1 _).setN l1 _⟩
  · have m1 := fun fa e => meth_cl (m := "row") (g := calls (f + 1) .Closure_row) (fa := fa) (e := e) h2
    rw [ev_l_tell, fb_l_tell]
    simp only [fD]
    generalize (S3.set S1.length (.lst (nsD as ++ [.int 0]))).set S1.length (.lst ([Dv.int 0] ++ (nsD as ++ [Dv.int 0]).drop 1)) = S5 at *
    generalize S3.set S1.length (.lst (nsD as ++ [.int 0])) = S4 at *
    have hk : ∀ k : Nat, kLh (some (Ob.lst (nsD as))) = true := fun _ => rfl
    by_cases h0 : w = 0
    · subst h0
      rw [if_pos rfl] at hd
      subst hd
      have e1'' : calls (f + 1) .l_take S [.hdl b, .int 2] = .ok (.int 0) S1 := e1'
      generalize nsD as = z at *
      simp -implicitDefEqProofs [e1'', s_rj, m1, e3, t3, ap, cp]
    · rw [if_neg h0] at hd
      subst hd
      have h0' : ¬ ((w : Int) = 0) := by omega
      generalize nsD as = z at *
      simp -implicitDefEqProofs [e1', h0, h0', s_rj, m1, e3, t3, ap, cp]
  · exact ((B1.app (o := .lst (nsD as))).off o3 (fun z => nb (by simp at z; simp [CA.ids]; omega))).off (offF _ _) (fun z => by
      obtain ⟨x, hx, _⟩ := B1
      have := (List.getElem?_eq_some_iff.mp hx).1
      simp at z; omega)
end
end DL
namespace DL
open PySem L2
def pqO (q : Nat × Nat) : Ob := .lst [.int (q.1 : Int), .int (q.2 : Int)]
def hsF : Nat → List (Nat × Nat) → List Dv
  | _, [] => []
  | L, _ :: ps => .hdl L :: hsF (L + 1) ps
theorem hsF_len : ∀ (ps : List (Nat × Nat)) (L : Nat), (hsF L ps).length = ps.length
  | [], _ => rfl
  | _ :: ps, L => by simp [hsF, hsF_len ps (L + 1)]
theorem hsF_mem : ∀ (ps : List (Nat × Nat)) (L : Nat) {d : Dv}, d ∈ hsF L ps → ∃ k, d = .hdl k ∧ L ≤ k ∧ k < L + ps.length
  | _ :: ps, L, d, h => by
    rcases List.mem_cons.mp h with rfl | h
    · exact ⟨L, rfl, Nat.le_refl _, by simp⟩
    · obtain ⟨k, e, h1, h2⟩ := hsF_mem ps (L + 1) h
      exact ⟨k, e, by omega, by simp; omega⟩
theorem lists_ok (e : Env) (he : 7 < e.length) : ∀ (ps : List (Nat × Nat)) (S : Sto), lcR (gN 7) tTrue (eNew (fList (aCons (eVar 7) aNil))) e (ps.map pqD) S = .ok (hsF S.length ps) (S ++ ps.map pqO)
  | [], S => by simp [hsF]; rfl
  | q :: ps, S => by
    have ih := lists_ok e he ps (S ++ [pqO q])
    have g : (e.set 7 (.va (pqD q)))[7]? = some (.va (pqD q)) := by rw [List.getElem?_set, if_pos rfl, if_pos he]
    have es : S ++ List.map pqO (q :: ps) = (S ++ [pqO q]) ++ ps.map pqO := by simp
    rw [es, List.map_cons]
    rw [show (S ++ [pqO q]).length = S.length + 1 by simp] at ih
    show _ = Res.ok (.hdl S.length :: hsF (S.length + 1) ps) _
    refine lcR_t (e1 := e.set 7 (.va (pqD q))) (S1 := S) (S2 := S ++ [pqO q]) rfl rfl ?_ ih
    unfold pqD at g ⊢
    simp [g, pqO]
theorem thaw_pq {S : Sto} {k : Nat} {q : Nat × Nat} (h : S[k]? = some (pqO q)) : thaw 29 S (.hdl k) = some (pqL q) := by
  have hs : sqO S k = some [.int (q.1 : Int), .int (q.2 : Int)] := by unfold sqO; simp only [h, pqO]
  unfold thaw
  simp only [noH, Bool.false_eq_true, if_false, hs, Option.bind_some]
  simp [thaw, noH, pqL]
theorem thaw_hs {S : Sto} : ∀ (ps : List (Nat × Nat)) (L : Nat), (∀ i (h : i < ps.length), S[L + i]? = some (pqO ps[i])) → (hsF L ps).mapM (thaw 29 S) = some (ps.map pqL)
  | [], _, _ => rfl
  | q :: ps, L, h => by
    have h0 := thaw_pq (h 0 (by simp))
    have ih := thaw_hs ps (L + 1) fun i hi => by
      have := h (i + 1) (by simp; omega)
      rw [show L + 1 + i = L + (i + 1) by omega]; simpa using this
    simp only [hsF, List.mapM_cons, List.map_cons]
    rw [show L + 0 = L from rfl] at h0
    rw [h0, ih]; rfl
section
variable {S : Sto} {A : CA} {C : CS} {b : Nat}
theorem tell_bar (f : Nat) (h : CloAt S A C) (cb : CB C) (hB : BagAt S b) (nb : b ∉ A.ids) {ps : List (Nat × Nat)} (hl : ps.length < 10000) :
    ∃ S', calls (f + 2) .l_tell S [.hdl b, .hdl A.c, fD (.bar ps)] = .ok .non S' ∧ CloAt S' A (tB C ps) ∧ BagAt S' b ∧ Off (b :: A.ids) S S' := by
  obtain ⟨w, S1, e1, u1, hw⟩ := takeN (f := f + 1) (by omega) hB (n := 2) (by omega) (by omega)
  have e1' : calls (f + 1) .l_take S [.hdl b, .int 2] = .ok (.int (w : Int)) S1 := e1
  have B1 := u1.bag hB
  have h1 : CloAt S1 A C := h.off u1.off fun i hi z => nb (by simp at z; rw [← z]; exact hi)
  have lt1 := h1.lt
  have ltb : b < S1.length := by obtain ⟨x, hx, _⟩ := B1; exact (List.getElem?_eq_some_iff.mp hx).1
  have h2 := (h1.app (ps.map pqO)).app [.lst (hsF S1.length ps)]
  generalize hS2 : S1 ++ ps.map pqO ++ [Ob.lst (hsF S1.length ps)] = S2 at *
  have o2 : Off (b :: A.ids) S S2 := by rw [← hS2]; exact ((u1.off.mono (by simp)).appR _).appR _
  have gP : S2[S1.length + ps.length]? = some (.lst (hsF S1.length ps)) := by rw [← hS2, List.getElem?_append_right (by simp)]; simp
  have gI : ∀ i (hi : i < ps.length), S2[S1.length + i]? = some (pqO ps[i]) := fun i hi => by
    rw [← hS2, List.getElem?_append_left (by simp; omega), List.getElem?_append_right (by omega)]
    simp [hi]
  have l2 : S2.length = S1.length + ps.length + 1 := by rw [← hS2]; simp; omega
  have nC : ∀ k, S1.length ≤ k → k ∉ [A.c] ∧ k ∉ [A.c, A.b] := fun k hk => by
    have q1 := lt1 A.c (by simp [CA.ids])
    have q2 := lt1 A.b (by simp [CA.ids])
    constructor <;> simp <;> omega
  have key : ∀ d : Dv, (d = .hdl (S1.length + ps.length) ∨ d = brD ps) → ∃ S3, calls (f + 1) .Closure_not_all S2 [.hdl A.c, d] = .ok .non S3 ∧ CloAt S3 A (tB C ps) ∧ Off [A.c, A.b] S2 S3 := fun d hd => by
    refine not_all_ok f h2 cb hl fun S' o => ?_
    rcases hd with rfl | rfl
    · refine .inr ?_
      have e1 := o.get gP (nC _ (by omega)).1
      have hs : sqO S' (S1.length + ps.length) = some (hsF S1.length ps) := by unfold sqO; simp only [e1]
      unfold thaw
      simp only [noH, Bool.false_eq_true, if_false, hs, Option.bind_some]
      rw [thaw_hs ps S1.length fun i hi => o.get (gI i hi) (nC _ (by omega)).1]
      rfl
    · exact prT_tup S' ps
  obtain ⟨d, hd, S3, e3, c3, o3⟩ : ∃ d : Dv, d = (if w = 0 then .hdl (S1.length + ps.length) else brD ps) ∧ ∃ S3, calls (f + 1) .Closure_not_all S2 [.hdl A.c, d] = .ok .non S3 ∧ CloAt S3 A (tB C ps) ∧ Off [A.c, A.b] S2 S3 := by
    refine ⟨_, rfl, key _ ?_⟩
    by_cases h0 : w = 0
    · rw [if_pos h0]; exact .inl rfl
    · rw [if_neg h0]; exact .inr rfl
  have g3 := o3.get gP (nC _ (by omega)).2
  have s3 : sqO S3 (S1.length + ps.length) = some (hsF S1.length ps) := by unfold sqO; simp only [g3]
  let e0 : Sl → Env := fun x => [.va (.hdl b), .va (.hdl A.c), .va (.tup [.str "not", brD ps]), .va (.bl (decide (w = 0))), .no, .va .non, .va (.hdl (S1.length + ps.length)), x]
  let J : Env → Sto → Prop := fun e T => (∃ x, e = e0 x) ∧ S3.length ≤ T.length ∧ (∀ i, i < S1.length → T[i]? = S3[i]?) ∧ T[S1.length + ps.length]? = S3[S1.length + ps.length]? ∧ ∀ k, S1.length ≤ k → k < S1.length + ps.length → ∃ x y : Int, T[k]? = some (.lst [.int x, .int y])
  have J3 : J (e0 .no) S3 := ⟨⟨_, rfl⟩, Nat.le_refl _, fun _ _ => rfl, rfl, fun k k1 k2 => by
    have := o3.get (gI (k - S1.length) (by omega)) (nC _ (by omega)).2
    rw [show S1.length + (k - S1.length) = k by omega] at this
    exact ⟨_, _, this⟩⟩
  obtain ⟨e4, S4, e5, j4⟩ := forH_go (P := J) (k := S1.length + ps.length) (l := hsF S1.length ps) (gd := gN 7) (body := fb_l_tell_l0 (calls (f + 1))) (fun e T j => by unfold sqO; simp only [j.2.2.2.1, g3]) (fun d hd e T j => by
    obtain ⟨k, rfl, k1, k2⟩ := hsF_mem ps S1.length hd
    obtain ⟨⟨x, rfl⟩, j1, j2, j3, j5⟩ := j
    obtain ⟨a, c, hk⟩ := j5 k k1 k2
    refine ⟨e0 (.va (.hdl k)), rfl, e0 (.va (.hdl k)), T.set k (.lst [.int c, .int c]), ?_, ⟨_, rfl⟩, by simpa using j1, fun i hi => by rw [get_set_ne (by omega)]; exact j2 i hi, by rw [get_set_ne (by omega)]; exact j3, fun m m1 m2 => ?_⟩
    · unfold fb_l_tell_l0
      have hx : ixD T (.hdl k) (.int 1) = some (.int c, T) := by
        unfold ixD asQ
        simp only [asT, asL, hk, Option.bind_some]; rfl
      have hs : setD T (.hdl k) (.int 0) (.int c) = some (T.set k (.lst [.int c, .int c])) := by
        rw [ev_setD, hk]; rfl
      simp [e0, hx, -ev_setD, hs]
    · by_cases q : m = k
      · subst q; exact ⟨c, c, get_set_eq hk⟩
      · obtain ⟨a', c', h'⟩ := j5 m m1 m2
        exact ⟨a', c', by rw [get_set_ne (Ne.symm q)]; exact h'⟩) ps.length 0 (e0 .no) S3 (by rw [hsF_len]; rfl) J3
  obtain ⟨⟨x, rfl⟩, j1, j2, j3, j5⟩ := j4
  have g4 : S4[S1.length + ps.length]? = some (.lst (hsF S1.length ps)) := j3.trans g3
  have cp := cutPut_1 S4 (S1.length + ps.length) (m := []) g4 (by rw [hsF_len]; simp; omega)
  have lowF : ∀ (o : Ob) i, i < S1.length → (S4.set (S1.length + ps.length) o)[i]? = S3[i]? := fun o i hi => by rw [get_set_ne (by omega)]; exact j2 i hi
  have off3 : Off (b :: A.ids) S S3 := o2.trans (o3.mono (by simp [CA.ids]))
  have l1 : S.length ≤ S1.length := u1.off.len
  refine ⟨S4.set (S1.length + ps.length) (.lst ([] ++ (hsF S1.length ps).drop 1)), ?_, ?_, ?_, ⟨?_, fun i hi ni => by rw [lowF _ i (by omega)]; exact off3.at_ i hi ni⟩⟩
  · have m1 := fun fa e => meth_cl (m := "not_all") (g := calls (f + 1) .Closure_not_all) (fa := fa) (e := e) h2
    have kf : kForH (gN 7) (fb_l_tell_l0 (calls (f + 1))) (e0 .no) (.hdl (S1.length + ps.length)) S3 = .nx (e0 x) S4 := by
      unfold kForH; simp only [s3, hsF_len]; exact e5
    have lc : lcR (gN 7) tTrue (eNew (fList (aCons (eVar 7) aNil))) [.va (.hdl b), .va (.hdl A.c), .va (.tup [.str "not", brD ps]), .va (.bl (decide (w = 0))), .no, .no, .no, .no] (ps.map pqD) S1 = .ok (hsF S1.length ps) (S1 ++ ps.map pqO) := lists_ok _ (by simp) ps S1
    have hlen : (hsF S1.length ps).length ≤ 16777216 := by rw [hsF_len]; omega
    have hPl : (S1 ++ ps.map pqO).length = S1.length + ps.length := by simp
    have sA : sAsg 6 (eNew (fLc (iSq (eBin ixD (eVar 2) (eC (.int 1)))) (gN 7) tTrue (eNew (fList (aCons (eVar 7) aNil))) [7])) [.va (.hdl b), .va (.hdl A.c), .va (.tup [.str "not", brD ps]), .va (.bl (decide (w = 0))), .no, .no, .no, .no] S1 = .nx [.va (.hdl b), .va (.hdl A.c), .va (.tup [.str "not", brD ps]), .va (.bl (decide (w = 0))), .no, .no, .va (.hdl (S1.length + ps.length)), .no] S2 := by
      have sq : seqR (brD ps) S1 = .ok (ps.map pqD) S1 := rfl
      generalize eNew (fList (aCons (eVar 7) aNil)) = te at *
      generalize hsF S1.length ps = z at *
      generalize ps.map pqD = z2 at *
      generalize brD ps = z3 at *
      simp -implicitDefEqProofs [iSq, sq, lc, kLcEnd' _ _ hlen, hPl, hS2]
    rw [ev_l_tell, fb_l_tell]
    simp only [fD]
    simp only [e0] at kf
    generalize sAsg 6 _ = w6 at *
    generalize S4.set (S1.length + ps.length) (.lst ([] ++ (hsF S1.length ps).drop 1)) = S5 at *
    generalize fb_l_tell_l0 (calls (f + 1)) = w7 at *
    generalize brD ps = z3 at *
    generalize S1.length + ps.length = P at *
    by_cases h0 : w = 0
    · subst h0
      rw [if_pos rfl] at hd
      subst hd
      have e1'' : calls (f + 1) .l_take S [.hdl b, .int 2] = .ok (.int 0) S1 := e1'
      simp only [decide_true] at kf sA
      simp -implicitDefEqProofs [e1'', s_nj, s_nr, sA, m1, e3, kf, cp]
    · rw [if_neg h0] at hd
      subst hd
      have h0' : ¬ ((w : Int) = 0) := by omega
      simp only [h0, decide_false] at kf sA
      simp -implicitDefEqProofs [e1', h0, h0', s_nj, s_nr, sA, m1, e3, kf, cp]
  · exact ⟨by rw [lowF _ _ (lt1 _ (by simp [CA.ids]))]; exact c3.c, by rw [lowF _ _ (lt1 _ (by simp [CA.ids]))]; exact c3.p, by rw [lowF _ _ (lt1 _ (by simp [CA.ids]))]; exact c3.k, by rw [lowF _ _ (lt1 _ (by simp [CA.ids]))]; exact c3.b, c3.cp, c3.ck, c3.cb, c3.pk, c3.pb, c3.kb⟩
  · obtain ⟨o, ho, hb⟩ := B1
    refine ⟨o, ?_, hb⟩
    rw [lowF _ b ltb, o3.at_ b (by omega) (fun z => nb (by simp at z; simp [CA.ids]; omega)), ← hS2, List.getElem?_append_left (by simp; omega), List.getElem?_append_left ltb]
    exact ho
  · rw [List.length_set]
    have := off3.len
    omega
end
end DL
namespace DL
open PySem L2
/-- a Closure of n things, told F, whose settled state is D -/
structure St (n : Nat) (F : List Fact) (D : CS) (A : CA) (b : Nat) (S : Sto) : Prop where
  cl : ∃ C, CloAt S A C ∧ CI n F C ∧ CB C ∧ stl (n + 1) C = D
  bag : BagAt S b
section
variable {n : Nat} {F : List Fact} {D : CS} {A : CA} {b : Nat} {S : Sto}
theorem St.ci (h : St n F D A b S) : CI n F D ∧ D.set = true ∧ CB D := by
  obtain ⟨C, h1, h2, h3, rfl⟩ := h.cl
  exact ⟨ci_settle h2 _, stl_set h2 (Nat.le_refl n), h3.kl, h3.kn, h3.bn, h3.ul⟩
theorem St.lt (h : St n F D A b S) : ∀ i ∈ A.ids, i < S.length := by
  obtain ⟨C, h1, _⟩ := h.cl
  exact h1.lt
theorem St.off {S' : Sto} {X : List Nat} (h : St n F D A b S) (o : Off X S S') (n1 : ∀ i ∈ A.ids, i ∉ X) (n2 : b ∉ X) : St n F D A b S' := by
  obtain ⟨C, h1, h2, h3, h4⟩ := h.cl
  exact ⟨⟨C, h1.off o n1, h2, h3, h4⟩, h.bag.off o n2⟩
theorem St.stands (f : Nat) (hn : n ≤ 150) (nb : b ∉ A.ids) (h : St n F D A b S) : ∃ S', calls (f + 4) .Closure_stands S [.hdl A.c] = .ok (.bl (stB D)) S' ∧ St n F D A b S' ∧ Off A.ids S S' := by
  obtain ⟨d1, d2, d3⟩ := h.ci
  obtain ⟨C, h1, h2, h3, h4⟩ := h.cl
  obtain ⟨S', e, c, o⟩ := stands_ok f hn h1 h2 h3 h1.lt
  rw [h4] at e c
  exact ⟨S', e, ⟨⟨D, c, d1, d3, stl_id d2 _⟩, h.bag.off o (fun z => nb (by simp at z; simp [CA.ids]; omega))⟩, o.mono (by simp [CA.ids])⟩
theorem St.same (f : Nat) (hn : n ≤ 150) (nb : b ∉ A.ids) (h : St n F D A b S) {x y : Nat} (hx : x < n) (hy : y < n) : ∃ S', calls (f + 5) .Closure_same S [.hdl A.c, .int (x : Int), .int (y : Int)] = .ok (.bl (smB D x y)) S' ∧ St n F D A b S' ∧ Off A.ids S S' := by
  obtain ⟨d1, d2, d3⟩ := h.ci
  obtain ⟨C, h1, h2, h3, h4⟩ := h.cl
  obtain ⟨S', e, c, o⟩ := same_ok f hn h1 h2 h3 h1.lt hx hy
  rw [h4] at e c
  exact ⟨S', e, ⟨⟨D, c, d1, d3, stl_id d2 _⟩, h.bag.off o (fun z => nb (by simp at z; simp [CA.ids]; omega))⟩, o.mono (by simp [CA.ids])⟩
theorem St.meth (h : St n F D A b S) {m : Str} {g : DF} {fa : DA} {e : Env} (h2 : ∀ C, ((fsC A.p A.k A.b C).lookup m).isNone = true := by intro _; rfl) : kMeth "Closure" m [] g fa e (.hdl A.c) S = bnd (fa e S) (kMe2 [] g (.hdl A.c)) := by
  obtain ⟨C, h1, _⟩ := h.cl
  exact meth_c h1 (h2 C)
end
end DL
namespace DL
open PySem L2
def fsE (E : Nat → Nat) (i : Nat) : Option Nat := (List.range i).find? fun j => decide (E j = E i)
def cls (E : Nat → Nat) : Nat → Nat
  | 0 => 0
  | i + 1 => match fsE E i with
    | some _ => cls E i
    | none => cls E i + 1
def rgs (E : Nat → Nat) : Nat → List Nat
  | 0 => []
  | i + 1 => rgs E i ++ [match fsE E i with
    | some j => (rgs E i).getD j 0
    | none => cls E i]
theorem fsE_some {E : Nat → Nat} {i j : Nat} (h : fsE E i = some j) : j < i ∧ E j = E i := by
  unfold fsE at h
  exact ⟨List.mem_range.mp (List.mem_of_find?_eq_some h), by simpa using List.find?_some h⟩
theorem fsE_none {E : Nat → Nat} {i : Nat} (h : fsE E i = none) : ∀ j, j < i → E j ≠ E i := fun j hj => by
  unfold fsE at h
  simpa using List.find?_eq_none.mp h j (List.mem_range.mpr hj)
theorem rgs_len (E : Nat → Nat) : ∀ i, (rgs E i).length = i
  | 0 => rfl
  | i + 1 => by simp [rgs, rgs_len E i]
structure SM (E : Nat → Nat) (i : Nat) (m : List (Key × Dv)) (kI : Nat → Key) : Prop where
  old : ∀ j, j < i → valD m (kI (E j)) = some (.int ((rgs E i).getD j 0 : Nat))
  new : ∀ r, (∀ j, j < i → E j ≠ r) → valD m (kI r) = none
  len : m.length = cls E i
theorem rgs_old (E : Nat → Nat) (i : Nat) {j : Nat} (hj : j < i) : (rgs E (i + 1)).getD j 0 = (rgs E i).getD j 0 := by
  rw [show rgs E (i + 1) = rgs E i ++ [match fsE E i with | some j => (rgs E i).getD j 0 | none => cls E i] from rfl]
  rw [List.getD_eq_getElem?_getD, List.getD_eq_getElem?_getD, List.getElem?_append_left (by rw [rgs_len]; exact hj)]
theorem rgs_new (E : Nat → Nat) (i : Nat) : (rgs E (i + 1)).getD i 0 = match fsE E i with
    | some j => (rgs E i).getD j 0
    | none => cls E i := by
  rw [show rgs E (i + 1) = rgs E i ++ [match fsE E i with | some j => (rgs E i).getD j 0 | none => cls E i] from rfl]
  rw [List.getD_eq_getElem?_getD, List.getElem?_append_right (by rw [rgs_len]; exact Nat.le_refl _), rgs_len]
  simp
def kI (r : Nat) : Key := .inl (r : Int)
theorem kI_inj {a b : Nat} (h : kI a = kI b) : a = b := by
  unfold kI at h
  injection h with h
  omega
theorem valD_app {m : List (Key × Dv)} {k k' : Key} {d : Dv} (h : valD m k = none) : valD (putD m k d) k' = if k' = k then some d else valD m k' := by
  have hany : (m.any fun kv => decide (kv.1 = k)) = false := by
    unfold valD at h
    cases e : m.find? (fun kv => decide (kv.1 = k)) with
    | some x => rw [e] at h; cases h
    | none =>
      have := List.find?_eq_none.mp e
      exact Bool.eq_false_iff.mpr fun z => by
        obtain ⟨x, hx, hx2⟩ := List.any_eq_true.mp z
        exact this x hx hx2
  unfold putD
  rw [hany, if_neg Bool.false_ne_true]
  unfold valD at h ⊢
  rw [List.find?_append]
  by_cases e : k' = k
  · subst e
    rw [if_pos rfl]
    cases q : m.find? (fun kv => decide (kv.1 = k')) with
    | some x => rw [q] at h; cases h
    | none => simp
  · rw [if_neg e]
    have n1 : ¬ k = k' := fun z => e z.symm
    cases q : m.find? (fun kv => decide (kv.1 = k')) with
    | some x => simp
    | none => simp [n1]
theorem put_len1 {m : List (Key × Dv)} {k : Key} {d : Dv} (h : valD m k = none) : (putD m k d).length = m.length + 1 := by
  have hany : (m.any fun kv => decide (kv.1 = k)) = false := by
    unfold valD at h
    cases e : m.find? (fun kv => decide (kv.1 = k)) with
    | some x => rw [e] at h; cases h
    | none =>
      have := List.find?_eq_none.mp e
      exact Bool.eq_false_iff.mpr fun z => by
        obtain ⟨x, hx, hx2⟩ := List.any_eq_true.mp z
        exact this x hx hx2
  unfold putD
  rw [hany, if_neg Bool.false_ne_true]
  simp
theorem sm_nil (E : Nat → Nat) : SM E 0 [] kI := ⟨fun j h => absurd h (Nat.not_lt_zero j), fun _ _ => rfl, rfl⟩
theorem sm_some {E : Nat → Nat} {i : Nat} {m : List (Key × Dv)} (h : SM E i m kI) {j : Nat} (hj : fsE E i = some j) : SM E (i + 1) m kI ∧ valD m (kI (E i)) = some (.int ((rgs E (i + 1)).getD i 0 : Nat)) := by
  obtain ⟨j1, j2⟩ := fsE_some hj
  have hv : valD m (kI (E i)) = some (.int ((rgs E (i + 1)).getD i 0 : Nat)) := by
    rw [rgs_new, hj, ← j2]; exact h.old j j1
  refine ⟨⟨fun k hk => ?_, fun r hr => h.new r fun k hk => hr k (by omega), ?_⟩, hv⟩
  · by_cases e : k = i
    · subst e; exact hv
    · rw [rgs_old E i (by omega)]; exact h.old k (by omega)
  · rw [h.len]
    show cls E i = (match fsE E i with | some _ => cls E i | none => cls E i + 1)
    rw [hj]
theorem sm_none {E : Nat → Nat} {i : Nat} {m : List (Key × Dv)} (h : SM E i m kI) (hj : fsE E i = none) : valD m (kI (E i)) = none ∧ SM E (i + 1) (putD m (kI (E i)) (.int (m.length : Int))) kI ∧ (rgs E (i + 1)).getD i 0 = m.length := by
  have hn := h.new (E i) (fsE_none hj)
  have hl : (rgs E (i + 1)).getD i 0 = m.length := by rw [rgs_new, hj, h.len]
  refine ⟨hn, ⟨fun k hk => ?_, fun r hr => ?_, ?_⟩, hl⟩
  · rw [valD_app hn]
    by_cases e : k = i
    · subst e
      rw [if_pos rfl, hl]
    · rw [if_neg (fun z => fsE_none hj k (by omega) (kI_inj z)), rgs_old E i (by omega)]
      exact h.old k (by omega)
  · rw [valD_app hn, if_neg (fun z => hr i (by omega) (kI_inj z).symm)]
    exact h.new r fun k hk => hr k (by omega)
  · rw [put_len1 hn, h.len]
    show cls E i + 1 = (match fsE E i with | some _ => cls E i | none => cls E i + 1)
    rw [hj]
theorem rgs_succ (E : Nat → Nat) (i : Nat) : rgs E (i + 1) = rgs E i ++ [(rgs E (i + 1)).getD i 0] := by
  rw [rgs_new]; rfl
end DL
namespace DL
open PySem L2
section
variable {A : CA} {D : CS}
def rtF (D : CS) (i : Nat) : Nat := rootOf D.par i
theorem mod_step (f : Nat) {S : Sto} (h : CloAt S A D) (pw : PW D.par) (hn : D.par.length ≤ 150) {i sh fh : Nat} (hi : i < D.par.length) {m : List (Key × Dv)} (ns : sh ∉ A.ids) (nf : fh ∉ A.ids) (ne : sh ≠ fh) (hs : S[sh]? = some (.dct m)) (hf : S[fh]? = some (.lst (nsD (rgs (rtF D) i)))) (sm : SM (rtF D) i m kI) (x3 : Sl) (hm : m.length ≤ 1000) :
    ∃ S' m', fb_Closure_model_l0 (calls (f + 1)) [.va (.hdl A.c), .va (.hdl sh), .va (.hdl fh), .va (.int (i : Int))] S = .nx [.va (.hdl A.c), .va (.hdl sh), .va (.hdl fh), .va (.int (i : Int))] S' ∧ CloAt S' A D ∧ S'[sh]? = some (.dct m') ∧ S'[fh]? = some (.lst (nsD (rgs (rtF D) (i + 1)))) ∧ SM (rtF D) (i + 1) m' kI ∧ Off [sh, fh] S S' ∧ m'.length ≤ m.length + 1 := by
  have ra := root_ok f h pw hi hn
  have m1 := fun fa => meth_c (m := "root") (g := calls (f + 1) .Closure_root) (fa := fa) (e := [.va (.hdl A.c), .va (.hdl sh), .va (.hdl fh), .va (.int (i : Int))]) h
  have ln := lenKD_ok hs
  have k1 := kKDef1_ok (fi := eMeth "Closure" "root" [] (calls (f + 1) .Closure_root) (eVar 0) (aCons (eVar 3) aNil)) (fx := eCB lenKD (aCons (eVar 1) aNil)) S [.va (.hdl A.c), .va (.hdl sh), .va (.hdl fh), .va (.int (i : Int))] sh hs
  have k3 := kKD3_ok S (.int ((rootOf D.par i : Nat) : Int)) (.int (m.length : Int)) sh (y := kI (rtF D i)) hs rfl (by omega)
  have kl : kLh (S[fh]?) = true := by rw [hf]; rfl
  have rl := rgs_len (rtF D) i
  cases e : fsE (rtF D) i with
  | some j =>
    obtain ⟨sm1, hv⟩ := sm_some sm e
    rw [hv] at k3
    have ap := hdlM_app S (.int (((rgs (rtF D) (i + 1)).getD i 0 : Nat) : Int)) (nsD (rgs (rtF D) i)) fh hf (by rw [nsD_len, rl, sizeLine_eq]; omega)
    have em : nsD (rgs (rtF D) i) ++ [.int (((rgs (rtF D) (i + 1)).getD i 0 : Nat) : Int)] = nsD (rgs (rtF D) (i + 1)) := by
      conv => rhs; rw [rgs_succ]
      simp [nsD]
    rw [em] at ap
    refine ⟨S.set fh (.lst (nsD (rgs (rtF D) (i + 1)))), m, ?_, h.off (X := [fh]) (Off.set (by simp)) (fun i hi z => nf (by simp at z; rw [← z]; exact hi)), by rw [get_set_ne ne.symm]; exact hs, get_set_eq hf, sm1, Off.set (by simp), by omega⟩
    unfold fb_Closure_model_l0
    generalize S.set fh (.lst (nsD (rgs (rtF D) (i + 1)))) = S2 at *
    generalize (((rgs (rtF D) (i + 1)).getD i 0 : Nat) : Int) = v at *
    simp -implicitDefEqProofs [kl, k1, m1, ra, ln, k3, ap]
  | none =>
    obtain ⟨hn0, sm1, hv⟩ := sm_none sm e
    rw [hn0] at k3
    have hf2 : (S.set sh (.dct (putD m (kI (rtF D i)) (.int (m.length : Int)))))[fh]? = some (.lst (nsD (rgs (rtF D) i))) := by rw [get_set_ne ne]; exact hf
    have ap := hdlM_app (S.set sh (.dct (putD m (kI (rtF D i)) (.int (m.length : Int))))) (.int (m.length : Int)) (nsD (rgs (rtF D) i)) fh hf2 (by rw [nsD_len, rl, sizeLine_eq]; omega)
    have em : nsD (rgs (rtF D) i) ++ [.int (m.length : Int)] = nsD (rgs (rtF D) (i + 1)) := by
      conv => rhs; rw [rgs_succ, hv]
      simp [nsD]
    rw [em] at ap
    have h2 : CloAt (S.set sh (.dct (putD m (kI (rtF D i)) (.int (m.length : Int))))) A D := h.off (X := [sh]) (Off.set (by simp)) (fun i hi z => ns (by simp at z; rw [← z]; exact hi))
    refine ⟨(S.set sh (.dct (putD m (kI (rtF D i)) (.int (m.length : Int))))).set fh (.lst (nsD (rgs (rtF D) (i + 1)))), putD m (kI (rtF D i)) (.int (m.length : Int)), ?_, h2.off (X := [fh]) (Off.set (by simp)) (fun i hi z => nf (by simp at z; rw [← z]; exact hi)), by rw [get_set_ne ne.symm]; exact get_set_eq hs, get_set_eq hf2, sm1, (Off.set (by simp)).trans (Off.set (by simp)), by rw [put_len1 hn0]; exact Nat.le_refl _⟩
    unfold fb_Closure_model_l0
    generalize (S.set sh (.dct (putD m (kI (rtF D i)) (.int (m.length : Int))))).set fh (.lst (nsD (rgs (rtF D) (i + 1)))) = S3 at *
    generalize S.set sh (.dct (putD m (kI (rtF D i)) (.int (m.length : Int)))) = S2 at *
    simp -implicitDefEqProofs [kl, k1, m1, ra, ln, k3, ap]
end
end DL
namespace DL
open PySem L2
section
variable {A : CA} {D : CS} {n : Nat} {F : List Fact} {b : Nat} {S : Sto}
theorem mod_loop (f : Nat) (pw : PW D.par) (hn : D.par.length ≤ 150) {sh fh : Nat} (ns : sh ∉ A.ids) (nf : fh ∉ A.ids) (ne : sh ≠ fh) : ∀ (k i : Nat) (S : Sto) (m : List (Key × Dv)) (x3 : Sl), i + k = D.par.length → CloAt S A D → S[sh]? = some (.dct m) → S[fh]? = some (.lst (nsD (rgs (rtF D) i))) → SM (rtF D) i m kI → m.length ≤ i →
    ∃ S' y, forR (gN 3) (fb_Closure_model_l0 (calls (f + 1))) (nsD (List.range' i k)) [.va (.hdl A.c), .va (.hdl sh), .va (.hdl fh), x3] S = .nx [.va (.hdl A.c), .va (.hdl sh), .va (.hdl fh), y] S' ∧ CloAt S' A D ∧ S'[fh]? = some (.lst (nsD (rgs (rtF D) D.par.length))) ∧ Off [sh, fh] S S'
  | 0, i, S, m, x3, hk, h, hs, hf, sm, hm => by
    have : i = D.par.length := by omega
    subst this
    exact ⟨S, x3, rfl, h, hf, Off.refl _ _⟩
  | k + 1, i, S, m, x3, hk, h, hs, hf, sm, hm => by
    obtain ⟨S1, m1, e1, c1, s1, f1, sm1, o1, l1⟩ := mod_step f h pw hn (i := i) (by omega) ns nf ne hs hf sm x3 (by omega)
    obtain ⟨S2, y, e2, c2, f2, o2⟩ := mod_loop f pw hn ns nf ne k (i + 1) S1 m1 (.va (.int (i : Int))) (by omega) c1 s1 f1 sm1 (by omega)
    refine ⟨S2, y, ?_, c2, f2, o1.trans o2⟩
    rw [← e2]
    show forR (gN 3) _ (.int (i : Int) :: nsD (List.range' (i + 1) k)) _ S = _
    exact forR_nx rfl e1
theorem model_ok (f : Nat) (hn : n ≤ 150) (nb : b ∉ A.ids) (h : St n F D A b S) :
    (stB D = true ∧ ∃ (hd : Nat) (S' : Sto), calls (f + 5) .Closure_model S [.hdl A.c] = .ok (.hdl hd) S' ∧ S'[hd]? = some (.lst (nsD (rgs (rtF D) n))) ∧ S.length ≤ hd ∧ St n F D A b S' ∧ Off A.ids S S') ∨
    (stB D = false ∧ ∃ S', calls (f + 5) .Closure_model S [.hdl A.c] = .ex "Contradiction" [] S' ∧ St n F D A b S' ∧ Off A.ids S S') := by
  obtain ⟨d1, d2, d3⟩ := h.ci
  obtain ⟨C, h1, h2, h3, h4⟩ := h.cl
  obtain ⟨S1, e1, c1, o1⟩ := stands_ok f hn h1 h2 h3 h1.lt
  rw [h4] at e1 c1
  have B1 : BagAt S1 b := h.bag.off o1 (fun z => nb (by simp at z; simp [CA.ids]; omega))
  have st1 : St n F D A b S1 := ⟨⟨D, c1, d1, d3, stl_id d2 _⟩, B1⟩
  have oi : Off A.ids S S1 := o1.mono (by simp [CA.ids])
  have m0 := fun fa e => meth_c (m := "stands") (g := calls (f + 4) .Closure_stands) (fa := fa) (e := e) h1
  rw [ev_Closure_model, fb_Closure_model]
  cases hs : stB D with
  | false =>
    refine .inr ⟨rfl, S1, ?_, st1, oi⟩
    rw [hs] at e1
    simp -implicitDefEqProofs [m0, e1]
  | true =>
    rw [hs] at e1
    have lt := c1.lt
    have hg1 : (S1 ++ [Ob.dct []] ++ [Ob.lst []])[S1.length]? = some (.dct []) := by simp
    have hg2 : (S1 ++ [Ob.dct []] ++ [Ob.lst []])[S1.length + 1]? = some (.lst (nsD (rgs (rtF D) 0))) := by
      rw [List.getElem?_append_right (by simp)]; simp [rgs, nsD]
    have c2 := (c1.app [.dct []]).app [.lst []]
    obtain ⟨S2, y, e2, c3, f3, o3⟩ := mod_loop (f + 3) d1.pw (by rw [d1.len]; exact hn) (sh := S1.length) (fh := S1.length + 1) (fun z => by have := lt _ z; omega) (fun z => by have := lt _ z; omega) (by omega) D.par.length 0 (S1 ++ [.dct []] ++ [.lst []]) [] .no (by omega) c2 hg1 hg2 (sm_nil _) (Nat.le_refl _)
    have fp := fld_p c2
    have lp : lenD (S1 ++ [Ob.dct []] ++ [Ob.lst []]) [.hdl A.p] = some (.int (n : Int), S1 ++ [Ob.dct []] ++ [Ob.lst []]) := by
      unfold lenD asQ
      simp only [asT, asL, c2.p, Option.map_some, nsD_len, d1.len]
    have rk := rngR1_ok (S1 ++ [Ob.dct []] ++ [Ob.lst []]) (n : Int) ⟨by omega, by omega⟩
    rw [Int.toNat_natCast, rng_nsD, List.range_eq_range'] at rk
    rw [d1.len] at e2 f3
    have off2 : Off A.ids S1 S2 := ⟨by have := o3.len; simp at this; omega, fun i hi ni => by rw [o3.at_ i (by simp; omega) (by simp; omega), List.getElem?_append_left (by simp; omega), List.getElem?_append_left hi]⟩
    refine .inl ⟨rfl, S1.length + 1, S2, ?_, f3, by have := o1.len; omega, ⟨⟨D, c3, d1, d3, stl_id d2 _⟩, ?_⟩, oi.trans off2⟩
    · generalize fb_Closure_model_l0 (calls (f + 4)) = w at *
      generalize nsD (List.range' 0 n) = z at *
      have ll : (S1 ++ [Ob.dct []]).length = S1.length + 1 := by simp
      generalize hT : S1 ++ [Ob.dct []] ++ [Ob.lst []] = T at *
      have hT2 : S1 ++ [Ob.dct [], Ob.lst []] = T := by rw [← hT]; simp
      simp -implicitDefEqProofs [m0, e1, fp, lp, rk, e2, hT2, ll]
    · exact B1.off (X := []) ⟨by have := o3.len; simp at this; omega, fun i hi _ => by rw [o3.at_ i (by simp; omega) (by simp; omega), List.getElem?_append_left (by simp; omega), List.getElem?_append_left hi]⟩ (by simp)
end
end DL
namespace DL
open PySem L2
section
variable {A : CA} {D : CS} {n : Nat} {F : List Fact} {b : Nat} {S : Sto}
theorem lmodel_ok (f : Nat) (hn : n ≤ 150) (nb : b ∉ A.ids) (h : St n F D A b S) :
    (stB D = true ∧ ∃ (hd : Nat) (S' : Sto), calls (f + 6) .l_model S [.hdl A.c] = .ok (.tup [.str "told", .hdl hd]) S' ∧ S'[hd]? = some (.lst (nsD (rgs (rtF D) n))) ∧ S.length ≤ hd ∧ St n F D A b S' ∧ Off A.ids S S') ∨
    (stB D = false ∧ ∃ S', calls (f + 6) .l_model S [.hdl A.c] = .ok (.tup [.str "refused"]) S' ∧ St n F D A b S' ∧ Off A.ids S S') := by
  have m0 := fun fa e => h.meth (m := "model") (g := calls (f + 5) .Closure_model) (fa := fa) (e := e)
  rw [ev_l_model, fb_l_model]
  rcases model_ok f hn nb h with ⟨hs, hd, S', e1, h1, h2, h3, h4⟩ | ⟨hs, S', e1, h3, h4⟩
  · refine .inl ⟨hs, hd, S', ?_, h1, h2, h3, h4⟩
    simp -implicitDefEqProofs [m0, e1]
  · refine .inr ⟨hs, S', ?_, h3, h4⟩
    have tk := fun els => kTryO_ex (sub := ext_Contradiction) (f := eTup (aCons (eC (.str "refused")) aNil)) (els := els) (c := "Contradiction") (fs := []) (e := [.va (.hdl A.c), .no]) (d := .tup [.str "refused"]) (S := S') (S' := S') (by rfl) (by rfl)
    simp -implicitDefEqProofs [m0, e1, tk]
end
end DL
namespace DL
open PySem L2
theorem rowsOf_len : ∀ F : List Fact, (rowsOf F).length ≤ F.length
  | [] => Nat.le_refl _
  | .row g as v :: F => by have := rowsOf_len F; simp [rowsOf]; omega
  | .join a b :: F => by have := rowsOf_len F; simp [rowsOf]; omega
  | .bar ps :: F => by have := rowsOf_len F; simp [rowsOf]; omega
theorem barsOf_len : ∀ F : List Fact, (barsOf F).length ≤ F.length
  | [] => Nat.le_refl _
  | .row g as v :: F => by have := barsOf_len F; simp [barsOf]; omega
  | .join a b :: F => by have := barsOf_len F; simp [barsOf]; omega
  | .bar ps :: F => by have := barsOf_len F; simp [barsOf]; omega
theorem cb_of {n : Nat} {F : List Fact} {C : CS} (ci : CI n F C) (sm : ∀ f ∈ F, Fact.Sm f) (hl : F.length < 5000) (hu : C.unl.length ≤ 150) : CB C := by
  refine ⟨fun q hq => ?_, ?_, ?_, hu⟩
  · rw [ci.kno] at hq
    have : q.2.1.length ≤ 4 := sm _ (mem_rowsOf.mp hq)
    omega
  · rw [ci.kno]; have := rowsOf_len F; omega
  · rw [ci.bar]; have := barsOf_len F; omega
theorem tell_ok (f : Nat) {n : Nat} (hn : n ≤ 150) {F : List Fact} {C : CS} {A : CA} {b : Nat} {S : Sto} (h : CloAt S A C) (ci : CI n F C) (cb : CB C) (hB : BagAt S b) (nb : b ∉ A.ids) {fa : Fact} (hf : fa.In n) (hs : fa.Sm) :
    ∃ S', calls (f + 4) .l_tell S [.hdl b, .hdl A.c, fD fa] = .ok .non S' ∧ CloAt S' A (tF C fa) ∧ BagAt S' b ∧ Off (b :: A.ids) S S' := by
  cases fa with
  | join x y => exact tell_join f hn h ci hB nb hf.1 hf.2
  | row g as v => exact tell_row (f + 2) h cb hB nb (by have : as.length ≤ 4 := hs; omega)
  | bar ps => exact tell_bar (f + 2) h cb hB nb (by have : ps.length ≤ 6 := hs; omega)
theorem tF_unl (C : CS) (fa : Fact) : (tF C fa).unl = C.unl := by cases fa <;> rfl
def kMkA (c : Str) (g : DF) (dl : List Dv) (as : List Dv) (S : Sto) : Res Dv := kMkH c g (as ++ dl) S
theorem ev_mkH (c : Str) (dl : List Dv) (g : DF) (fa : DA) (e : Env) (S : Sto) : eMkH c dl g fa e S = bnd (fa e S) (kMkA c g dl) := rfl
theorem make_ok (f : Nat) (S : Sto) (n : Nat) (hn : n < 1000000) {u : List Nat} {d : Dv} (hd : ∀ S', Off [] S S' → listD S' [d] = some (.lst (nsD u), S')) {as dl : List Dv} (ha : as ++ dl = [.int (n : Int), d]) :
    ∃ S', kMkA "Closure" (calls (f + 1) .Closure_init) dl as S = .ok (.hdl S.length) S' ∧ CloAt S' (A0 S.length) (C0 n u) ∧ Off [] S S' ∧ S'.length = S.length + 4 := by
  obtain ⟨S', e, c, o, l⟩ := init_ok f S n hn hd
  refine ⟨S', ?_, c, o, l⟩
  unfold kMkA kMkH
  rw [ha, e]; rfl
theorem ids0 (L : Nat) : ∀ i ∈ (A0 L).ids, L ≤ i ∧ i < L + 4 := fun i hi => by
  simp [A0, CA.ids] at hi
  omega
theorem truth_ok (f : Nat) (S : Sto) (a b : Bool) : calls (f + 1) .l_truth S [.bl a, .bl b] = .ok (.bl (a == b)) S := by
  rw [ev_l_truth, fb_l_truth]
  cases a <;> cases b <;> simp [isD]
theorem rps_ints : ∀ xs : List Int, Rps (xs.map Dv.int) (xs.map PyData.int)
  | [] => rps_nil
  | x :: xs => rps_cons (rp_int x) (rps_ints xs)
theorem shaped_ints (xs : List Int) : PyData.canLayAll0 (xs.map PyData.int) = true ∧ PyData.depthAll (xs.map PyData.int) = 0 := by
  induction xs with
  | nil => exact ⟨rfl, rfl⟩
  | cons x xs ih =>
    rw [List.map_cons, cl_cons, da_cons, ih.1, ih.2]
    exact ⟨by simp [PyData.canLay0], by simp [PyData.depth]⟩
theorem St.bu {n b : Nat} {F : List Fact} {D : CS} {A : CA} {S : Sto} {S' : Sto} (h : St n F D A b S) (nb : b ∉ A.ids) (u : BU b S S') : St n F D A b S' := by
  obtain ⟨C, h1, h2, h3, h4⟩ := h.cl
  exact ⟨⟨C, h1.off u.off (fun i hi z => nb (by simp at z; rw [← z]; exact hi)), h2, h3, h4⟩, u.bag h.bag⟩
theorem nodup_cong {u : List Nat} {f g : Nat → Nat} (h : ∀ a ∈ u, ∀ b ∈ u, f a = f b ↔ g a = g b) : (u.map f).Nodup ↔ (u.map g).Nodup := by
  induction u with
  | nil => simp
  | cons x u ih =>
    have ih := ih fun a ha b hb => h a (List.mem_cons_of_mem _ ha) b (List.mem_cons_of_mem _ hb)
    simp only [List.map_cons, List.nodup_cons, List.mem_map, not_exists, not_and, ih]
    constructor
    · rintro ⟨h1, h2⟩
      exact ⟨fun y hy e => h1 y hy ((h y (List.mem_cons_of_mem _ hy) x List.mem_cons_self).mpr e), h2⟩
    · rintro ⟨h1, h2⟩
      exact ⟨fun y hy e => h1 y hy ((h y (List.mem_cons_of_mem _ hy) x List.mem_cons_self).mp e), h2⟩
theorem fsE_cong {E E' : Nat → Nat} {i : Nat} (h : ∀ a b, a ≤ i → b ≤ i → (E a = E b ↔ E' a = E' b)) : fsE E i = fsE E' i := by
  unfold fsE
  have hl : ∀ x ∈ List.range i, x ≤ i := fun x hx => by have := List.mem_range.mp hx; omega
  generalize List.range i = L at *
  induction L with
  | nil => rfl
  | cons x L ih =>
    have ih := ih fun y hy => hl y (List.mem_cons_of_mem _ hy)
    have hx := h x i (hl x List.mem_cons_self) (Nat.le_refl _)
    rw [List.find?_cons, List.find?_cons, ih, decide_eq_decide.mpr hx]
theorem rgs_cong {E E' : Nat → Nat} : ∀ i, (∀ a b, a < i → b < i → (E a = E b ↔ E' a = E' b)) → rgs E i = rgs E' i ∧ cls E i = cls E' i
  | 0, _ => ⟨rfl, rfl⟩
  | i + 1, h => by
    obtain ⟨h1, h2⟩ := rgs_cong i fun a b ha hb => h a b (by omega) (by omega)
    have h3 := fsE_cong (E := E) (E' := E') (i := i) fun a b ha hb => h a b (by omega) (by omega)
    constructor
    · show rgs E i ++ [match fsE E i with | some j => (rgs E i).getD j 0 | none => cls E i] = rgs E' i ++ [match fsE E' i with | some j => (rgs E' i).getD j 0 | none => cls E' i]
      rw [h1, h2, h3]
    · show (match fsE E i with | some _ => cls E i | none => cls E i + 1) = (match fsE E' i with | some _ => cls E' i | none => cls E' i + 1)
      rw [h2, h3]
theorem ix0 (S : Sto) (x : Dv) (l : List Dv) : ixD S (.tup (x :: l)) (.int 0) = some (x, S) := by
  unfold ixD asQ atI
  simp only [asT, Option.bind_some, List.length_cons, ixN_lit0, List.getElem?_cons_zero, Option.map_some]
theorem ix1 (S : Sto) (x y : Dv) (l : List Dv) : ixD S (.tup (x :: y :: l)) (.int 1) = some (y, S) := by
  unfold ixD asQ atI
  simp only [asT, Option.bind_some]
  rw [ixN_ok (by omega) (by simp only [List.length_cons]; omega)]
  rfl
theorem ix2 (S : Sto) (x y z : Dv) (l : List Dv) : ixD S (.tup (x :: y :: z :: l)) (.int 2) = some (z, S) := by
  unfold ixD asQ atI
  simp only [asT, Option.bind_some]
  rw [ixN_ok (by omega) (by simp only [List.length_cons]; omega)]
  rfl
theorem ix3 (S : Sto) (x y z w : Dv) (l : List Dv) : ixD S (.tup (x :: y :: z :: w :: l)) (.int 3) = some (w, S) := by
  unfold ixD asQ atI
  simp only [asT, Option.bind_some]
  rw [ixN_ok (by omega) (by simp only [List.length_cons]; omega)]
  rfl
end DL
namespace DL
open PySem L2
def RtE (n : Nat) (F : List Fact) (E : Nat → Nat) : Prop := ∀ a b, a < n → b < n → (E a = E b ↔ ∀ m, ModF m F → m a = m b)
theorem rt_ci {n : Nat} {F : List Fact} {D : CS} (ci : CI n F D) (hs : D.set = true) : RtE n F (rtF D) := fun a b ha hb => by
  have mr : ModF (fun i => ((rootOf D.par i : Nat) : Int)) F := by
    refine ⟨fun x y hxy => by show ((rootOf D.par x : Nat) : Int) = _; rw [ci.join x y hxy], fun q hq q' hq' e1 e2 => ?_⟩
    rw [← ci.kno] at hq hq'
    show ((rootOf D.par _ : Nat) : Int) = _
    rw [ci.closed hs q hq q' hq' e1 (map_cast D.par e2)]
  constructor
  · intro e m hm
    have e' : rootOf D.par a = rootOf D.par b := e
    have := ci.sound m hm
    rw [← this a (by rw [ci.len]; exact ha), ← this b (by rw [ci.len]; exact hb), e']
  · intro h
    have z : ((rootOf D.par a : Nat) : Int) = (rootOf D.par b : Nat) := h _ mr
    show rootOf D.par a = rootOf D.par b
    omega
/-- is there a model, by the roots of things -/
def stE (E : Nat → Nat) (F : List Fact) (u : List Nat) : Bool := decide ((u.map E).Nodup) && (barsOf F).all fun ps => ps.any fun q => decide (E q.1 ≠ E q.2)
theorem stB_E {n : Nat} {F : List Fact} {D : CS} (ci : CI n F D) : stB D = stE (rtF D) F D.unl := by
  unfold stB stE
  rw [ci.bar]; rfl
def smE (E : Nat → Nat) (F : List Fact) (u : List Nat) (a b : Nat) : Bool := !stE E F u || decide (E a = E b)
theorem smB_E {n : Nat} {F : List Fact} {D : CS} (ci : CI n F D) (a b : Nat) : smB D a b = smE (rtF D) F D.unl a b := by
  unfold smB smE
  rw [stB_E ci]; rfl
def rnF (s : Nat → Nat) : Fact → Fact
  | .join a b => .join (s a) (s b)
  | .row g as v => .row g (as.map s) (s v)
  | .bar ps => .bar (ps.map fun q => (s q.1, s q.2))
structure Ren (n : Nat) (s t : Nat → Nat) : Prop where
  lt : ∀ a, a < n → s a < n
  back : ∀ a, a < n → t (s a) = a
theorem map_mt {n : Nat} {s t : Nat → Nat} (r : Ren n s t) (m : Nat → Int) {as : List Nat} (h : ∀ x ∈ as, x < n) : (as.map s).map (fun i => m (t i)) = as.map m := by
  rw [List.map_map]
  exact List.map_congr_left fun x hx => by show m (t (s x)) = m x; rw [r.back x (h x hx)]
theorem mod_up {n : Nat} {s t : Nat → Nat} (r : Ren n s t) {F F' : List Fact} (hF : FIn n F) (h : ∀ f', f' ∈ F' ↔ ∃ f ∈ F, f' = rnF s f) {m : Nat → Int} (hm : ModF m F) : ModF (fun i => m (t i)) F' := by
  refine ⟨fun a b hab => ?_, fun q hq q' hq' e1 e2 => ?_⟩
  · obtain ⟨f, hf, e⟩ := (h _).mp hab
    cases f with
    | join x y =>
      simp only [rnF, Fact.join.injEq] at e
      obtain ⟨hx, hy⟩ := hF _ hf
      rw [e.1, e.2]
      show m (t (s x)) = m (t (s y))
      rw [r.back x hx, r.back y hy]
      exact hm.j x y hf
    | row g as v => simp [rnF] at e
    | bar ps => simp [rnF] at e
  · obtain ⟨f, hf, e⟩ := (h _).mp (mem_rowsOf.mp hq)
    obtain ⟨f', hf', e'⟩ := (h _).mp (mem_rowsOf.mp hq')
    cases f with
    | join x y => simp [rnF] at e
    | bar ps => simp [rnF] at e
    | row g as v =>
      cases f' with
      | join x y => simp [rnF] at e'
      | bar ps => simp [rnF] at e'
      | row g' as' v' =>
        simp only [rnF, Fact.row.injEq] at e e'
        obtain ⟨i1, i2⟩ := hF _ hf
        obtain ⟨j1, j2⟩ := hF _ hf'
        rw [e.1, e'.1] at e1
        rw [e.2.1, e'.2.1, map_mt r m i1, map_mt r m j1] at e2
        show m (t q.2.2) = m (t q'.2.2)
        rw [e.2.2, e'.2.2, r.back v i2, r.back v' j2]
        exact hm.r (g, as, v) (mem_rowsOf.mpr hf) (g', as', v') (mem_rowsOf.mpr hf') e1 e2
theorem mod_down {s : Nat → Nat} {F F' : List Fact} (h : ∀ f', f' ∈ F' ↔ ∃ f ∈ F, f' = rnF s f) {m : Nat → Int} (hm : ModF m F') : ModF (fun i => m (s i)) F := by
  refine ⟨fun a b hab => hm.j _ _ ((h _).mpr ⟨_, hab, rfl⟩), fun q hq q' hq' e1 e2 => ?_⟩
  have f1 : (q.1, q.2.1.map s, s q.2.2) ∈ rowsOf F' := mem_rowsOf.mpr ((h _).mpr ⟨_, mem_rowsOf.mp hq, rfl⟩)
  have f2 : (q'.1, q'.2.1.map s, s q'.2.2) ∈ rowsOf F' := mem_rowsOf.mpr ((h _).mpr ⟨_, mem_rowsOf.mp hq', rfl⟩)
  exact hm.r _ f1 _ f2 e1 (by
    show (q.2.1.map s).map m = (q'.2.1.map s).map m
    rw [List.map_map, List.map_map]; exact e2)
/-- the second one is the first one with other names -/
structure Oth (n : Nat) (s t : Nat → Nat) (F : List Fact) (u : List Nat) (F' : List Fact) (u' : List Nat) : Prop where
  ren : Ren n s t
  fs : ∀ f', f' ∈ F' ↔ ∃ f ∈ F, f' = rnF s f
  us : u' = u.map s
  len : F'.length = F.length
section
variable {n : Nat} {s t : Nat → Nat} {F F' : List Fact} {u u' : List Nat}
theorem Oth.rt (o : Oth n s t F u F' u') (hF : FIn n F) {E E' : Nat → Nat} (h : RtE n F E) (h' : RtE n F' E') {a b : Nat} (ha : a < n) (hb : b < n) : E' (s a) = E' (s b) ↔ E a = E b := by
  rw [h a b ha hb, h' _ _ (o.ren.lt a ha) (o.ren.lt b hb)]
  constructor
  · intro z m hm
    have := z _ (mod_up o.ren hF o.fs hm)
    simp only [o.ren.back a ha, o.ren.back b hb] at this
    exact this
  · intro z m hm
    exact z _ (mod_down o.fs hm)
theorem Oth.st (o : Oth n s t F u F' u') (hF : FIn n F) (hu : ∀ x ∈ u, x < n) {E E' : Nat → Nat} (h : RtE n F E) (h' : RtE n F' E') : stE E' F' u' = stE E F u := by
  unfold stE
  have h1 : ((u'.map E').Nodup) ↔ ((u.map E).Nodup) := by
    rw [o.us, List.map_map]
    exact nodup_cong fun a ha b hb => o.rt hF h h' (hu a ha) (hu b hb)
  rw [decide_eq_decide.mpr h1]
  congr 1
  rw [Bool.eq_iff_iff, List.all_eq_true, List.all_eq_true]
  constructor
  · intro z ps hps
    have hf := mem_barsOf.mp hps
    have := z _ (mem_barsOf.mpr ((o.fs _).mpr ⟨_, hf, rfl⟩))
    obtain ⟨q, hq, hne⟩ := List.any_eq_true.mp this
    obtain ⟨p, hp, rfl⟩ := List.mem_map.mp hq
    obtain ⟨i1, i2⟩ := hF _ hf p hp
    refine List.any_eq_true.mpr ⟨p, hp, ?_⟩
    simp only [decide_eq_true_eq] at hne ⊢
    exact fun z => hne ((o.rt hF h h' i1 i2).mpr z)
  · intro z ps hps
    obtain ⟨f, hf, e⟩ := (o.fs _).mp (mem_barsOf.mp hps)
    cases f with
    | join x y => simp [rnF] at e
    | row g as v => simp [rnF] at e
    | bar qs =>
      simp only [rnF, Fact.bar.injEq] at e
      have := z _ (mem_barsOf.mpr hf)
      obtain ⟨p, hp, hne⟩ := List.any_eq_true.mp this
      obtain ⟨i1, i2⟩ := hF _ hf p hp
      rw [e]
      refine List.any_eq_true.mpr ⟨_, List.mem_map_of_mem hp, ?_⟩
      simp only [decide_eq_true_eq] at hne ⊢
      exact fun z => hne ((o.rt hF h h' i1 i2).mp z)
theorem Oth.sm (o : Oth n s t F u F' u') (hF : FIn n F) (hu : ∀ x ∈ u, x < n) {E E' : Nat → Nat} (h : RtE n F E) (h' : RtE n F' E') {a b : Nat} (ha : a < n) (hb : b < n) : smE E' F' u' (s a) (s b) = smE E F u a b := by
  unfold smE
  rw [o.st hF hu h h', decide_eq_decide.mpr (o.rt hF h h' ha hb)]
theorem oth_id (n : Nat) (F : List Fact) (u : List Nat) : Oth n (fun i => i) (fun i => i) F u F u := by
  have r : ∀ f : Fact, rnF (fun i => i) f = f := fun f => by
    cases f with
    | join a b => rfl
    | row g as v => simp [rnF]
    | bar ps => simp [rnF]
  exact ⟨⟨fun _ h => h, fun _ _ => rfl⟩, fun f' => ⟨fun h => ⟨f', h, (r f').symm⟩, fun ⟨f, h, e⟩ => by rw [e, r f]; exact h⟩, by simp, rfl⟩
end
structure Ou (b lo hi : Nat) (S S' : Sto) : Prop where
  len : S.length ≤ S'.length
  at_ : ∀ i, i < S.length → i ≠ b → (i < lo ∨ hi ≤ i) → S'[i]? = S[i]?
theorem Ou.trans {b lo hi : Nat} {S S' S'' : Sto} (a : Ou b lo hi S S') (c : Ou b lo hi S' S'') : Ou b lo hi S S'' := ⟨Nat.le_trans a.len c.len, fun i h n w => (c.at_ i (Nat.lt_of_lt_of_le h a.len) n w).trans (a.at_ i h n w)⟩
theorem Ou.refl (b lo hi : Nat) (S : Sto) : Ou b lo hi S S := ⟨Nat.le_refl _, fun _ _ _ _ => rfl⟩
theorem Ou.of {b lo hi : Nat} {X : List Nat} {S S' : Sto} (o : Off X S S') (h : ∀ i ∈ X, i = b ∨ (lo ≤ i ∧ i < hi)) : Ou b lo hi S S' := ⟨o.len, fun i hi n w => o.at_ i hi fun z => by
  rcases h i z with e | e
  · exact n e
  · omega⟩
theorem Ou.mono {b lo hi lo' hi' : Nat} {S S' : Sto} (o : Ou b lo hi S S') (h1 : lo' ≤ lo) (h2 : hi ≤ hi') : Ou b lo' hi' S S' := ⟨o.len, fun i h n w => o.at_ i h n (by omega)⟩
structure Cl (n : Nat) (F : List Fact) (u : List Nat) (b lo hi c : Nat) (S : Sto) : Prop where
  cl : ∃ A C, A.c = c ∧ CloAt S A C ∧ CI n F C ∧ C.unl = u ∧ ∀ i ∈ A.ids, lo ≤ i ∧ i < hi
  sm : ∀ f ∈ F, Fact.Sm f
  fl : F.length < 1000
  ul : u.length ≤ 150
  nb : b < lo
section
variable {n b lo hi c : Nat} {F : List Fact} {u : List Nat} {S : Sto}
theorem Cl.out {S' : Sto} {lo' hi' : Nat} (h : Cl n F u b lo hi c S) (o : Ou b lo' hi' S S') (d : hi ≤ lo' ∨ hi' ≤ lo) : Cl n F u b lo hi c S' := by
  obtain ⟨A, C, h1, h2, h3, h4, h5⟩ := h.cl
  have lt := h2.lt
  have nb := h.nb
  have g : ∀ i ∈ A.ids, S'[i]? = S[i]? := fun i hi => o.at_ i (lt i hi) (by have := h5 i hi; omega) (by have := h5 i hi; omega)
  exact ⟨⟨A, C, h1, ⟨by rw [g _ (by simp [CA.ids])]; exact h2.c, by rw [g _ (by simp [CA.ids])]; exact h2.p, by rw [g _ (by simp [CA.ids])]; exact h2.k, by rw [g _ (by simp [CA.ids])]; exact h2.b, h2.cp, h2.ck, h2.cb, h2.pk, h2.pb, h2.kb⟩, h3, h4, h5⟩, h.sm, h.fl, h.ul, h.nb⟩
theorem Cl.bag {S' : Sto} (h : Cl n F u b lo hi c S) (o : Ou b lo hi S S') (B : BagAt S b) (hb : S'[b]? = S[b]?) : BagAt S' b := by
  obtain ⟨x, h1, h2⟩ := B
  exact ⟨x, by rw [hb]; exact h1, h2⟩
theorem Cl.meth (h : Cl n F u b lo hi c S) {m : Str} {g : DF} {fa : DA} {e : Env} (h2 : ∀ (A : CA) C, ((fsC A.p A.k A.b C).lookup m).isNone = true := by intro _ _; rfl) : kMeth "Closure" m [] g fa e (.hdl c) S = bnd (fa e S) (kMe2 [] g (.hdl c)) := by
  obtain ⟨A, C, rfl, h1, _⟩ := h.cl
  exact meth_c h1 (h2 A C)
theorem Cl.st (h : Cl n F u b lo hi c S) (B : BagAt S b) : ∃ A D, A.c = c ∧ St n F D A b S ∧ D.unl = u ∧ (∀ i ∈ A.ids, lo ≤ i ∧ i < hi) ∧ b ∉ A.ids := by
  obtain ⟨A, C, h1, h2, h3, h4, h5⟩ := h.cl
  have nb := h.nb
  exact ⟨A, stl (n + 1) C, h1, ⟨⟨C, h2, h3, cb_of h3 h.sm (by have := h.fl; omega) (by rw [h4]; exact h.ul), rfl⟩, B⟩, h4, h5, fun z => by have := h5 b z; omega⟩
theorem cl_of {A : CA} {D : CS} (st : St n F D A b S) (hu : D.unl = u) (h5 : ∀ i ∈ A.ids, lo ≤ i ∧ i < hi) (hc : A.c = c) (sm : ∀ f ∈ F, Fact.Sm f) (fl : F.length < 1000) (ul : u.length ≤ 150) (nb : b < lo) : Cl n F u b lo hi c S := by
  obtain ⟨C, k1, k2, k3, k4⟩ := st.cl
  exact ⟨⟨A, C, hc, k1, k2, (show C.unl = (stl (n + 1) C).unl from rfl).trans (by rw [k4]; exact hu), h5⟩, sm, fl, ul, nb⟩
theorem Cl.stands (f : Nat) (hn : n ≤ 150) (h : Cl n F u b lo hi c S) (B : BagAt S b) : ∃ (E : Nat → Nat) (S' : Sto), RtE n F E ∧ calls (f + 4) .Closure_stands S [.hdl c] = .ok (.bl (stE E F u)) S' ∧ Cl n F u b lo hi c S' ∧ BagAt S' b ∧ Ou b lo hi S S' := by
  obtain ⟨A, D, rfl, st, hu, h5, nb⟩ := h.st B
  obtain ⟨d1, d2, d3⟩ := st.ci
  obtain ⟨S', e, st', o⟩ := st.stands f hn nb
  refine ⟨rtF D, S', rt_ci d1 d2, ?_, cl_of st' hu h5 rfl h.sm h.fl h.ul h.nb, st'.bag, Ou.of o fun i hi => .inr (h5 i hi)⟩
  rw [e, stB_E d1, hu]
theorem Cl.same (f : Nat) (hn : n ≤ 150) (h : Cl n F u b lo hi c S) (B : BagAt S b) {x y : Nat} (hx : x < n) (hy : y < n) : ∃ (E : Nat → Nat) (S' : Sto), RtE n F E ∧ calls (f + 5) .Closure_same S [.hdl c, .int (x : Int), .int (y : Int)] = .ok (.bl (smE E F u x y)) S' ∧ Cl n F u b lo hi c S' ∧ BagAt S' b ∧ Ou b lo hi S S' := by
  obtain ⟨A, D, rfl, st, hu, h5, nb⟩ := h.st B
  obtain ⟨d1, d2, d3⟩ := st.ci
  obtain ⟨S', e, st', o⟩ := st.same f hn nb hx hy
  refine ⟨rtF D, S', rt_ci d1 d2, ?_, cl_of st' hu h5 rfl h.sm h.fl h.ul h.nb, st'.bag, Ou.of o fun i hi => .inr (h5 i hi)⟩
  rw [e, smB_E d1, hu]
theorem Cl.model (f : Nat) (hn : n ≤ 150) (h : Cl n F u b lo hi c S) (B : BagAt S b) : ∃ (E : Nat → Nat) (S' : Sto) (d : Dv), RtE n F E ∧ calls (f + 6) .l_model S [.hdl c] = .ok d S' ∧ Cl n F u b lo hi c S' ∧ BagAt S' b ∧ Ou b lo hi S S' ∧
    ((stE E F u = true ∧ ∃ hd, d = .tup [.str "told", .hdl hd] ∧ S.length ≤ hd ∧ S'[hd]? = some (.lst (nsD (rgs E n)))) ∨ (stE E F u = false ∧ d = .tup [.str "refused"])) := by
  obtain ⟨A, D, rfl, st, hu, h5, nb⟩ := h.st B
  obtain ⟨d1, d2, d3⟩ := st.ci
  have es := stB_E d1
  rw [hu] at es
  rcases lmodel_ok f hn nb st with ⟨hs, hd, S', em, h1, h2, h3, h4⟩ | ⟨hs, S', em, h3, h4⟩
  · exact ⟨rtF D, S', _, rt_ci d1 d2, em, cl_of h3 hu h5 rfl h.sm h.fl h.ul h.nb, h3.bag, Ou.of h4 fun i hi => .inr (h5 i hi), .inl ⟨es.symm.trans hs, hd, rfl, h2, h1⟩⟩
  · exact ⟨rtF D, S', _, rt_ci d1 d2, em, cl_of h3 hu h5 rfl h.sm h.fl h.ul h.nb, h3.bag, Ou.of h4 fun i hi => .inr (h5 i hi), .inr ⟨es.symm.trans hs, rfl⟩⟩
theorem Cl.facts (f : Nat) (h : Cl n F u b lo hi c S) : calls (f + 1) .Closure_facts S [.hdl c] = .ok (.int (F.length : Int)) S := by
  obtain ⟨A, C, rfl, h2, h3, h4, h5⟩ := h.cl
  rw [facts_ok f h2, h3.told]
theorem Cl.tell (f : Nat) (hn : n ≤ 150) (h : Cl n F u b lo hi c S) (B : BagAt S b) {fa : Fact} (hf : fa.In n) (hs : fa.Sm) (hl : F.length < 999) : ∃ S', calls (f + 4) .l_tell S [.hdl b, .hdl c, fD fa] = .ok .non S' ∧ Cl n (F ++ [fa]) u b lo hi c S' ∧ BagAt S' b ∧ Ou b lo hi S S' := by
  obtain ⟨A, C, rfl, h2, h3, h4, h5⟩ := h.cl
  have nb := h.nb
  obtain ⟨S', e, c', B', o⟩ := tell_ok f hn h2 h3 (cb_of h3 h.sm (by have := h.fl; omega) (by rw [h4]; exact h.ul)) B (fun z => by have := h5 b z; omega) hf hs
  refine ⟨S', e, ⟨⟨A, _, rfl, c', ci_tell h3 hf, (tF_unl C fa).trans h4, h5⟩, fun x hx => ?_, by simp; omega, h.ul, h.nb⟩, B', Ou.of o fun i hi => ?_⟩
  · rcases List.mem_append.mp hx with z | z
    · exact h.sm x z
    · simp only [List.mem_singleton] at z; subst z; exact hs
  · rcases List.mem_cons.mp hi with z | z
    · exact .inl z
    · exact .inr (h5 i z)
end
end DL
namespace DL
open PySem L2
theorem for_inv {gi : Nat} {body : DS} (J : Env → Sto → Prop) (ds0 : List Dv) (step : ∀ d ∈ ds0, ∀ e S, J e S → ∃ e' S', body (e.set gi (.va d)) S = .nx e' S' ∧ J e' S') : ∀ (ds : List Dv) (e : Env) (S : Sto), (∀ d ∈ ds, d ∈ ds0) → J e S → ∃ e' S', forR (gN gi) body ds e S = .nx e' S' ∧ J e' S'
  | [], e, S, _, h => ⟨e, S, rfl, h⟩
  | d :: ds, e, S, hd, h => by
    obtain ⟨e1, S1, q1, j1⟩ := step d (hd d List.mem_cons_self) e S h
    obtain ⟨e2, S2, q2, j2⟩ := for_inv J ds0 step ds e1 S1 (fun x hx => hd x (List.mem_cons_of_mem _ hx)) j1
    exact ⟨e2, S2, by rw [← q2]; exact forR_nx rfl q1, j2⟩
structure OuP (P : Nat → Prop) (S S' : Sto) : Prop where
  len : S.length ≤ S'.length
  at_ : ∀ i, i < S.length → ¬ P i → S'[i]? = S[i]?
theorem OuP.refl (P : Nat → Prop) (S : Sto) : OuP P S S := ⟨Nat.le_refl _, fun _ _ _ => rfl⟩
theorem OuP.trans {P : Nat → Prop} {S S' S'' : Sto} (a : OuP P S S') (c : OuP P S' S'') : OuP P S S'' := ⟨Nat.le_trans a.len c.len, fun i h n => (c.at_ i (Nat.lt_of_lt_of_le h a.len) n).trans (a.at_ i h n)⟩
theorem OuP.mono {P Q : Nat → Prop} {S S' : Sto} (a : OuP P S S') (h : ∀ i, P i → Q i) : OuP Q S S' := ⟨a.len, fun i hi n => a.at_ i hi fun z => n (h i z)⟩
theorem Ou.toP {b lo hi : Nat} {S S' : Sto} (o : Ou b lo hi S S') : OuP (fun i => i = b ∨ (lo ≤ i ∧ i < hi)) S S' := ⟨o.len, fun i h n => o.at_ i h (fun z => n (.inl z)) (by
  rcases Nat.lt_or_ge i lo with z | z
  · exact .inl z
  · rcases Nat.lt_or_ge i hi with w | w
    · exact (n (.inr ⟨z, w⟩)).elim
    · exact .inr w)⟩
theorem BU.toP {b : Nat} {S S' : Sto} (u : BU b S S') : OuP (fun i => i = b) S S' := ⟨Nat.le_of_eq u.len.symm, fun i _ n => u.get fun z => n z.symm⟩
section
variable {n b lo hi c lo' hi' c' : Nat} {F F' : List Fact} {u u' : List Nat} {S : Sto} {s t : Nat → Nat}
theorem Cl.outP {P : Nat → Prop} {S' : Sto} (h : Cl n F u b lo hi c S) (o : OuP P S S') (d : ∀ i, lo ≤ i → i < hi → ¬ P i) : Cl n F u b lo hi c S' := by
  obtain ⟨A, C, h1, h2, h3, h4, h5⟩ := h.cl
  have lt := h2.lt
  have g : ∀ i ∈ A.ids, S'[i]? = S[i]? := fun i hi => o.at_ i (lt i hi) (by have := h5 i hi; exact d i this.1 this.2)
  exact ⟨⟨A, C, h1, ⟨by rw [g _ (by simp [CA.ids])]; exact h2.c, by rw [g _ (by simp [CA.ids])]; exact h2.p, by rw [g _ (by simp [CA.ids])]; exact h2.k, by rw [g _ (by simp [CA.ids])]; exact h2.b, h2.cp, h2.ck, h2.cb, h2.pk, h2.pb, h2.kb⟩, h3, h4, h5⟩, h.sm, h.fl, h.ul, h.nb⟩
theorem Cl.bu {S' : Sto} (h : Cl n F u b lo hi c S) (w : BU b S S') : Cl n F u b lo hi c S' := h.outP w.toP fun i h1 _ z => by have := h.nb; omega
theorem Cl.lt (h : Cl n F u b lo hi c S) : c < S.length := by
  obtain ⟨A, C, rfl, h2, _⟩ := h.cl
  exact h2.lt _ (by simp [CA.ids])
theorem Cl.uin (h : Cl n F u b lo hi c S) : ∀ x ∈ u, x < n := by
  obtain ⟨A, C, h1, h2, h3, h4, h5⟩ := h.cl
  rw [← h4]; exact h3.uin
theorem Cl.fin (h : Cl n F u b lo hi c S) : FIn n F := by
  obtain ⟨A, C, h1, h2, h3, h4, h5⟩ := h.cl
  exact h3.fin
/-- two Closures apart from one another -/
structure Two (n : Nat) (F : List Fact) (u : List Nat) (F' : List Fact) (u' : List Nat) (b lo hi c lo' hi' c' : Nat) (S : Sto) : Prop where
  one : Cl n F u b lo hi c S
  oth : Cl n F' u' b lo' hi' c' S
  bag : BagAt S b
  dis : hi ≤ lo' ∨ hi' ≤ lo
def P2 (b lo hi lo' hi' : Nat) (i : Nat) : Prop := i = b ∨ (lo ≤ i ∧ i < hi) ∨ (lo' ≤ i ∧ i < hi')
theorem Two.s1 (f : Nat) (hn : n ≤ 150) (h : Two n F u F' u' b lo hi c lo' hi' c' S) : ∃ (E : Nat → Nat) (S' : Sto), RtE n F E ∧ calls (f + 4) .Closure_stands S [.hdl c] = .ok (.bl (stE E F u)) S' ∧ Two n F u F' u' b lo hi c lo' hi' c' S' ∧ OuP (P2 b lo hi lo' hi') S S' := by
  obtain ⟨E, S', r, e, c1, b1, o1⟩ := h.one.stands f hn h.bag
  exact ⟨E, S', r, e, ⟨c1, h.oth.out o1 (by have := h.dis; omega), b1, h.dis⟩, o1.toP.mono fun i z => by unfold P2; omega⟩
theorem Two.s2 (f : Nat) (hn : n ≤ 150) (h : Two n F u F' u' b lo hi c lo' hi' c' S) : ∃ (E : Nat → Nat) (S' : Sto), RtE n F' E ∧ calls (f + 4) .Closure_stands S [.hdl c'] = .ok (.bl (stE E F' u')) S' ∧ Two n F u F' u' b lo hi c lo' hi' c' S' ∧ OuP (P2 b lo hi lo' hi') S S' := by
  obtain ⟨E, S', r, e, c1, b1, o1⟩ := h.oth.stands f hn h.bag
  exact ⟨E, S', r, e, ⟨h.one.out o1 (by have := h.dis; omega), c1, b1, h.dis⟩, o1.toP.mono fun i z => by unfold P2; omega⟩
theorem Two.m1 (f : Nat) (hn : n ≤ 150) (h : Two n F u F' u' b lo hi c lo' hi' c' S) {x y : Nat} (hx : x < n) (hy : y < n) : ∃ (E : Nat → Nat) (S' : Sto), RtE n F E ∧ calls (f + 5) .Closure_same S [.hdl c, .int (x : Int), .int (y : Int)] = .ok (.bl (smE E F u x y)) S' ∧ Two n F u F' u' b lo hi c lo' hi' c' S' ∧ OuP (P2 b lo hi lo' hi') S S' := by
  obtain ⟨E, S', r, e, c1, b1, o1⟩ := h.one.same f hn h.bag hx hy
  exact ⟨E, S', r, e, ⟨c1, h.oth.out o1 (by have := h.dis; omega), b1, h.dis⟩, o1.toP.mono fun i z => by unfold P2; omega⟩
theorem Two.m2 (f : Nat) (hn : n ≤ 150) (h : Two n F u F' u' b lo hi c lo' hi' c' S) {x y : Nat} (hx : x < n) (hy : y < n) : ∃ (E : Nat → Nat) (S' : Sto), RtE n F' E ∧ calls (f + 5) .Closure_same S [.hdl c', .int (x : Int), .int (y : Int)] = .ok (.bl (smE E F' u' x y)) S' ∧ Two n F u F' u' b lo hi c lo' hi' c' S' ∧ OuP (P2 b lo hi lo' hi') S S' := by
  obtain ⟨E, S', r, e, c1, b1, o1⟩ := h.oth.same f hn h.bag hx hy
  exact ⟨E, S', r, e, ⟨h.one.out o1 (by have := h.dis; omega), c1, b1, h.dis⟩, o1.toP.mono fun i z => by unfold P2; omega⟩
theorem Two.bu {S' : Sto} (h : Two n F u F' u' b lo hi c lo' hi' c' S) (w : BU b S S') : Two n F u F' u' b lo hi c lo' hi' c' S' ∧ OuP (P2 b lo hi lo' hi') S S' := ⟨⟨h.one.bu w, h.oth.bu w, w.bag h.bag, h.dis⟩, w.toP.mono fun i z => .inl z⟩
theorem smE_sym (E : Nat → Nat) (F : List Fact) (u : List Nat) (a b : Nat) : smE E F u a b = smE E F u b a := by
  unfold smE
  rw [show decide (E a = E b) = decide (E b = E a) from decide_eq_decide.mpr ⟨Eq.symm, Eq.symm⟩]
def ordF (o : List Nat) (i : Nat) : Nat := o.getD i 0
theorem ord_ix (S : Sto) {l : List Nat} {i : Nat} (hi : i < l.length) : ixD S (.lst (nsD l)) (.int (i : Int)) = some (.int ((ordF l i : Nat) : Int), S) := by
  unfold ixD asQ
  simp only [asT, asL, Option.bind_some]
  unfold atI
  rw [ixN_ok (by omega) (by rw [nsD_len]; omega)]
  simp [nsD, hi, ordF, List.getD_eq_getElem?_getD]
def aE (b c c' : Nat) (o : List Nat) (x4 x5 x6 x7 : Sl) : Env := [.va (.hdl b), .va (.hdl c), .va (.hdl c'), .va (.lst (nsD o)), x4, x5, x6, x7]
variable {o : List Nat}
theorem alike_step (f : Nat) (hn : n ≤ 150) (ot : Oth n (ordF o) t F u F' u') (ol : o.length = n) (h : Two n F u F' u' b lo hi c lo' hi' c' S) {a p : Nat} (ha : a < n) (hp : p < n) (x4 x7 : Sl) :
    ∃ y7 S', fb_l_alike_l0 (calls (f + 5)) (aE b c c' o x4 (.va (.int (a : Int))) (.va (.int (p : Int))) x7) S = .nx (aE b c c' o x4 (.va (.int (a : Int))) (.va (.int (p : Int))) y7) S' ∧ Two n F u F' u' b lo hi c lo' hi' c' S' ∧ OuP (P2 b lo hi lo' hi') S S' := by
  obtain ⟨E, S1, r1, e1, t1, o1⟩ := h.m2 f hn (ot.ren.lt p hp) (ot.ren.lt a ha)
  obtain ⟨E2, S2, r2, e2, t2, o2⟩ := t1.m1 f hn ha hp
  have m1 := fun fa e => h.oth.meth (m := "same") (g := calls (f + 5) .Closure_same) (fa := fa) (e := e)
  have m2 := fun fa e => t1.one.meth (m := "same") (g := calls (f + 5) .Closure_same) (fa := fa) (e := e)
  have v := ot.sm h.one.fin h.one.uin r2 r1 hp ha
  rw [smE_sym E2] at v
  rw [v] at e1
  have tr := truth_ok (f + 4) S2 (smE E2 F u a p) (smE E2 F u a p)
  rw [beq_self_eq_true] at tr
  have i1 := ord_ix S (l := o) (i := p) (by omega)
  have i2 := ord_ix S (l := o) (i := a) (by omega)
  refine ⟨.va (.bl (smE E2 F u a p)), S2, ?_, t2, o1.trans o2⟩
  unfold fb_l_alike_l0 aE
  generalize smE E2 F u a p = w at *
  generalize nsD o = z at *
  simp -implicitDefEqProofs [i1, i2, m1, e1, m2, e2, tr]
theorem alike_ok (f : Nat) (hn : n ≤ 150) (ot : Oth n (ordF o) t F u F' u') (ol : o.length = n) (h : Two n F u F' u' b lo hi c lo' hi' c' S) :
    ∃ S', calls (f + 6) .l_alike S [.hdl b, .hdl c, .hdl c', .lst (nsD o)] = .ok (.bl true) S' ∧ Two n F u F' u' b lo hi c lo' hi' c' S' ∧ OuP (P2 b lo hi lo' hi') S S' := by
  obtain ⟨w, S1, e1, u1, hw⟩ := takeN (f := f + 5) (by omega) h.bag (n := 2) (by omega) (by omega)
  have e1' : calls (f + 5) .l_take S [.hdl b, .int 2] = .ok (.int (w : Int)) S1 := e1
  obtain ⟨t1, o1⟩ := h.bu u1
  have eqb : ∀ (T : Sto) (x : Bool), eqD T (.bl x) (.bl x) = some true := fun T x => by cases x <;> simp [eqD]
  -- both asked whether they stand
  have ask : ∀ S, Two n F u F' u' b lo hi c lo' hi' c' S → ∃ (v : Bool) (Sa Sb : Sto), calls (f + 5) .Closure_stands S [.hdl c] = .ok (.bl v) Sa ∧ calls (f + 5) .Closure_stands Sa [.hdl c'] = .ok (.bl v) Sb ∧ (∀ fa e, kMeth "Closure" "stands" [] (calls (f + 5) .Closure_stands) fa e (.hdl c) S = bnd (fa e S) (kMe2 [] (calls (f + 5) .Closure_stands) (.hdl c))) ∧ (∀ fa e, kMeth "Closure" "stands" [] (calls (f + 5) .Closure_stands) fa e (.hdl c') Sa = bnd (fa e Sa) (kMe2 [] (calls (f + 5) .Closure_stands) (.hdl c'))) ∧ Two n F u F' u' b lo hi c lo' hi' c' Sb ∧ OuP (P2 b lo hi lo' hi') S Sb := fun S h => by
    obtain ⟨E, Sa, r1, q1, g1, p1⟩ := h.s1 (f + 1) hn
    obtain ⟨E2, Sb, r2, q2, g2, p2⟩ := g1.s2 (f + 1) hn
    rw [ot.st h.one.fin h.one.uin r1 r2] at q2
    exact ⟨_, Sa, Sb, q1, q2, fun fa e => h.one.meth, fun fa e => g1.oth.meth, g2, p1.trans p2⟩
  obtain ⟨S2, e2, t2, o2⟩ : ∃ S2, (sIf (tAnd' (tTru (eVar 4)) (tVal (eBin neE (eMeth "Closure" "stands" [] (calls (f + 5) .Closure_stands) (eVar 1) aNil) (eMeth "Closure" "stands" [] (calls (f + 5) .Closure_stands) (eVar 2) aNil)))) (sRet (eC (.bl false))) sNil) (aE b c c' o (.va (.bl (decide (w = 0)))) .no .no .no) S1 = .nx (aE b c c' o (.va (.bl (decide (w = 0)))) .no .no .no) S2 ∧ Two n F u F' u' b lo hi c lo' hi' c' S2 ∧ OuP (P2 b lo hi lo' hi') S1 S2 := by
    by_cases hw0 : w = 0
    · obtain ⟨v, Sa, Sb, q1, q2, k1, k2, g, p⟩ := ask S1 t1
      refine ⟨Sb, ?_, g, p⟩
      have q := eqb Sb v
      unfold aE
      rw [decide_eq_true hw0]
      generalize nsD o = z
      simp -implicitDefEqProofs [k1, q1, k2, q2, q]
    · refine ⟨S1, ?_, t1, OuP.refl _ _⟩
      unfold aE
      rw [decide_eq_false hw0]
      generalize nsD o = z
      simp -implicitDefEqProofs
  obtain ⟨J, hJ⟩ : ∃ J : Env → Sto → Prop, ∀ e S', J e S' ↔ (∃ x5 x6 x7, e = aE b c c' o (.va (.bl (decide (w = 0)))) x5 x6 x7) ∧ Two n F u F' u' b lo hi c lo' hi' c' S' ∧ OuP (P2 b lo hi lo' hi') S2 S' := ⟨_, fun _ _ => Iff.rfl⟩
  have lp := for_inv (gi := 5) (body := fb_l_alike_l1 (calls (f + 5))) J (nsD (List.range n)) (fun d hd e S' hj => by
    obtain ⟨⟨x5, x6, x7, rfl⟩, g, p⟩ := (hJ _ _).mp hj
    unfold nsD at hd
    obtain ⟨a, ha, rfl⟩ := List.mem_map.mp hd
    have ha := List.mem_range.mp ha
    obtain ⟨J2, hJ2⟩ : ∃ J2 : Env → Sto → Prop, ∀ e S', J2 e S' ↔ (∃ x6 x7, e = aE b c c' o (.va (.bl (decide (w = 0)))) (.va (.int (a : Int))) x6 x7) ∧ Two n F u F' u' b lo hi c lo' hi' c' S' ∧ OuP (P2 b lo hi lo' hi') S2 S' := ⟨_, fun _ _ => Iff.rfl⟩
    have lp2 := for_inv (gi := 6) (body := fb_l_alike_l0 (calls (f + 5))) J2 (nsD (List.range (a + 1))) (fun d hd e S' hj => by
      obtain ⟨⟨x6, x7, rfl⟩, g, p⟩ := (hJ2 _ _).mp hj
      unfold nsD at hd
      obtain ⟨q, hq, rfl⟩ := List.mem_map.mp hd
      have hq := List.mem_range.mp hq
      obtain ⟨y7, S3, e3, t3, o3⟩ := alike_step f hn ot ol g (a := a) (p := q) ha (by omega) (.va (.bl (decide (w = 0)))) x7
      exact ⟨_, S3, e3, (hJ2 _ _).mpr ⟨⟨_, _, rfl⟩, t3, p.trans o3⟩⟩) (nsD (List.range (a + 1))) _ S' (fun _ h => h) ((hJ2 _ _).mpr ⟨⟨x6, x7, rfl⟩, g, p⟩)
    obtain ⟨e3, S3, q3, j3⟩ := lp2
    obtain ⟨⟨y6, y7, rfl⟩, g3, p3⟩ := (hJ2 _ _).mp j3
    refine ⟨aE b c c' o (.va (.bl (decide (w = 0)))) (.va (.int (a : Int))) y6 y7, S3, ?_, (hJ _ _).mpr ⟨⟨_, _, _, rfl⟩, g3, p3⟩⟩
    have rk := rngR1_ok S' ((a + 1 : Nat) : Int) ⟨by omega, by omega⟩
    rw [Int.toNat_natCast, rng_nsD] at rk
    have ad : (a : Int) + 1 = ((a + 1 : Nat) : Int) := by omega
    show fb_l_alike_l1 (calls (f + 5)) (aE b c c' o (.va (.bl (decide (w = 0)))) (.va (.int (a : Int))) x6 x7) S' = _
    unfold fb_l_alike_l1
    unfold aE at *
    generalize ((a + 1 : Nat) : Int) = m at *
    generalize nsD (List.range (a + 1)) = z1 at *
    generalize nsD o = z at *
    generalize fb_l_alike_l0 (calls (f + 5)) = w2 at *
    simp -implicitDefEqProofs [ad, rk, q3])
  obtain ⟨e3, S3, q3, j3⟩ := lp (nsD (List.range n)) (aE b c c' o (.va (.bl (decide (w = 0)))) .no .no .no) S2 (fun _ h => h) ((hJ _ _).mpr ⟨⟨_, _, _, rfl⟩, t2, OuP.refl _ _⟩)
  obtain ⟨⟨y5, y6, y7, rfl⟩, t3, o3⟩ := (hJ _ _).mp j3
  obtain ⟨v, Sa, Sb, q1, q2, k1, k2, g, p⟩ := ask S3 t3
  have f1 := g.one.facts (f + 4)
  have f2 := g.oth.facts (f + 4)
  rw [ot.len] at f2
  have k3 := fun fa e => g.one.meth (m := "facts") (g := calls (f + 5) .Closure_facts) (fa := fa) (e := e)
  have k4 := fun fa e => g.oth.meth (m := "facts") (g := calls (f + 5) .Closure_facts) (fa := fa) (e := e)
  refine ⟨Sb, ?_, g, ((o1.trans o2).trans o3).trans p⟩
  have q := eqb Sb v
  have rk := rngR1_ok S2 (n : Int) ⟨by omega, by omega⟩
  rw [Int.toNat_natCast, rng_nsD] at rk
  have ll : ∀ T, lenD T [.lst (nsD o)] = some (.int (n : Int), T) := fun T => by
    show some (Dv.int ((nsD o).length : Int), T) = _
    rw [nsD_len, ol]
  have d0 : (decide ((w : Int) = 0)) = decide (w = 0) := decide_eq_decide.mpr (by omega)
  rw [ev_l_alike, fb_l_alike]
  generalize hs : (sIf (tAnd' (tTru (eVar 4)) (tVal (eBin neE (eMeth "Closure" "stands" [] (calls (f + 5) .Closure_stands) (eVar 1) aNil) (eMeth "Closure" "stands" [] (calls (f + 5) .Closure_stands) (eVar 2) aNil)))) (sRet (eC (.bl false))) sNil) = st at *
  have s1 : sAsg 4 (eBin eqE (eCall (calls (f + 5)  .l_take) (aCons (eVar 0) (aCons (eC (.int 2)) aNil))) (eC (.int 0))) (aE b c c' o .no .no .no .no) S = .nx (aE b c c' o (.va (.bl (decide (w = 0)))) .no .no .no) S1 := by
    unfold aE
    generalize nsD o = z
    simp -implicitDefEqProofs [e1', d0]
  generalize sAsg 4 (eBin eqE (eCall (calls (f + 5)  .l_take) (aCons (eVar 0) (aCons (eC (.int 2)) aNil))) (eC (.int 0))) = st0 at *
  unfold aE at *
  generalize fb_l_alike_l1 (calls (f + 5)) = w2 at *
  generalize nsD (List.range n) = z1 at *
  generalize nsD o = z at *
  simp -implicitDefEqProofs [s1, e2, ll, rk, q3, k1, q1, k2, q2, q, k3, f1, k4, f2]
end
end DL
namespace DL
open PySem L2
theorem listK_hdl {S : Sto} {k : Nat} {l : List Dv} (h : S[k]? = some (.lst l)) : listK [.hdl k] S = .ok l S := by
  unfold listK asQ
  simp only [asT, asL, h]
section
variable {S : Sto} {A : CA} {C C1 : CS} {L p k b : Nat}
def cpE (c L : Nat) : Env := [.va (.hdl c), .va (.hdl L)]
theorem cp_new (h : CloAt S A C) (hL : S[L]? = some (insC p k b C1)) (nL : L ∉ A.ids) {fn : Str} {q : Nat} {l : List Dv} (hf : kFld "Closure" fn (.hdl A.c) S = .ok (.hdl q) S) (hq : S[q]? = some (.lst l)) :
    sFldH "Closure" fn (eVar 1) (eNew (fList (aCons (eFld "Closure" fn (eVar 0)) aNil))) (cpE A.c L) S = .nx (cpE A.c L) ((S ++ [Ob.lst l]).set L (.ins "Closure" (putFD fn (.hdl S.length) (fsC p k b C1)))) := by
  have lt := (List.getElem?_eq_some_iff.mp hL).1
  refine fldH_ok (v := .hdl S.length) (o := .hdl L) (S1 := S ++ [.lst l]) (S2 := S ++ [.lst l]) ?_ rfl ?_
  · unfold cpE
    have lk := listK_hdl hq
    simp [hf, lk]
  · exact setF_ok (by rw [List.getElem?_append_left lt]; exact hL) (show (6 : Nat) < 1000 by decide)
theorem cp_val (h : CloAt S A C) (hL : S[L]? = some (insC p k b C1)) {fn : Str} {v : Dv} (hf : kFld "Closure" fn (.hdl A.c) S = .ok v S) :
    sFldH "Closure" fn (eVar 1) (eFld "Closure" fn (eVar 0)) (cpE A.c L) S = .nx (cpE A.c L) (S.set L (.ins "Closure" (putFD fn v (fsC p k b C1)))) := by
  refine fldH_ok (v := v) (o := .hdl L) (S1 := S) (S2 := S) ?_ rfl ?_
  · unfold cpE
    simp [hf]
  · exact setF_ok hL (show (6 : Nat) < 1000 by decide)
theorem CloAt.put {o : Ob} (h : CloAt S A C) (nL : L ∉ A.ids) : CloAt (S.set L o) A C := h.off (X := [L]) (Off.set (by simp)) fun i hi z => nL (by simp at z; rw [← z]; exact hi)
end
theorem copy_at (f : Nat) {S : Sto} {A : CA} {C : CS} (h : CloAt S A C) : ∃ S', calls (f + 2) .Closure_copied S [.hdl A.c] = .ok (.hdl S.length) S' ∧ CloAt S' ⟨S.length, S.length + 4, S.length + 5, S.length + 6⟩ C ∧ OuP (fun _ => False) S S' ∧ S'.length = S.length + 7 := by
  obtain ⟨S1, e1, c1, o1, l1⟩ := make_ok f S 0 (by omega) (u := C.unl) (d := .lst (nsD C.unl)) (fun S' o => rfl) (as := [.int 0, .lst (nsD C.unl)]) (dl := dl_Closure_2) rfl
  have lt := h.lt
  generalize hL : S.length = L at *
  have nL : L ∉ A.ids := fun z => by have := lt L z; omega
  have h1 : CloAt S1 A C := h.off o1 (by simp)
  have w1 : S1[L]? = some (insC (L + 1) (L + 2) (L + 3) (C0 0 C.unl)) := c1.c
  -- parents
  have q2 := cp_new h1 w1 nL (fld_p h1) h1.p
  have E2 : ((S1 ++ [Ob.lst (nsD C.par)]).set L (.ins "Closure" (putFD "parents" (.hdl S1.length) (fsC (L + 1) (L + 2) (L + 3) (C0 0 C.unl))))) = ((S1 ++ [Ob.lst (nsD C.par)]).set L (insC (L + 4) (L + 2) (L + 3) (C0 0 C.unl))) := by rw [l1]; rfl
  rw [E2] at q2
  have g2 : (S1 ++ [Ob.lst (nsD C.par)]).length = L + 5 := by simp [l1]
  have p2 : ((S1 ++ [Ob.lst (nsD C.par)]).set L (insC (L + 4) (L + 2) (L + 3) (C0 0 C.unl)))[L + 4]? = some (.lst (nsD C.par)) := by rw [get_set_ne (by omega), List.getElem?_append_right (by omega), l1]; simp
  have w2 : ((S1 ++ [Ob.lst (nsD C.par)]).set L (insC (L + 4) (L + 2) (L + 3) (C0 0 C.unl)))[L]? = some (insC (L + 4) (L + 2) (L + 3) (C0 0 C.unl)) := by rw [List.getElem?_set, if_pos rfl, if_pos (by omega)]
  have h2 := (h1.app [.lst (nsD C.par)]).put (o := insC (L + 4) (L + 2) (L + 3) (C0 0 C.unl)) nL
  have o2 : OuP (fun i => i = L) S1 ((S1 ++ [Ob.lst (nsD C.par)]).set L (insC (L + 4) (L + 2) (L + 3) (C0 0 C.unl))) := ⟨by simp, fun i hi n => by rw [get_set_ne (fun z => n z.symm), List.getElem?_append_left hi]⟩
  have l2 : ((S1 ++ [Ob.lst (nsD C.par)]).set L (insC (L + 4) (L + 2) (L + 3) (C0 0 C.unl))).length = L + 5 := by rw [List.length_set]; exact g2
  generalize ((S1 ++ [Ob.lst (nsD C.par)]).set L (insC (L + 4) (L + 2) (L + 3) (C0 0 C.unl))) = S2 at *
  -- known
  have q3 := cp_new h2 w2 nL (fld_k h2) h2.k
  have E3 : ((S2 ++ [Ob.lst (C.kno.map rwD)]).set L (.ins "Closure" (putFD "known" (.hdl S2.length) (fsC (L + 4) (L + 2) (L + 3) (C0 0 C.unl))))) = ((S2 ++ [Ob.lst (C.kno.map rwD)]).set L (insC (L + 4) (L + 5) (L + 3) (C0 0 C.unl))) := by rw [l2]; rfl
  rw [E3] at q3
  have g3 : (S2 ++ [Ob.lst (C.kno.map rwD)]).length = L + 6 := by simp [l2]
  have k3 : ((S2 ++ [Ob.lst (C.kno.map rwD)]).set L (insC (L + 4) (L + 5) (L + 3) (C0 0 C.unl)))[L + 5]? = some (.lst (C.kno.map rwD)) := by rw [get_set_ne (by omega), List.getElem?_append_right (by omega), l2]; simp
  have p3 : ((S2 ++ [Ob.lst (C.kno.map rwD)]).set L (insC (L + 4) (L + 5) (L + 3) (C0 0 C.unl)))[L + 4]? = some (.lst (nsD C.par)) := by rw [get_set_ne (by omega), List.getElem?_append_left (by omega)]; exact p2
  have w3 : ((S2 ++ [Ob.lst (C.kno.map rwD)]).set L (insC (L + 4) (L + 5) (L + 3) (C0 0 C.unl)))[L]? = some (insC (L + 4) (L + 5) (L + 3) (C0 0 C.unl)) := by rw [List.getElem?_set, if_pos rfl, if_pos (by omega)]
  have h3 := (h2.app [.lst (C.kno.map rwD)]).put (o := insC (L + 4) (L + 5) (L + 3) (C0 0 C.unl)) nL
  have o3 : OuP (fun i => i = L) S2 ((S2 ++ [Ob.lst (C.kno.map rwD)]).set L (insC (L + 4) (L + 5) (L + 3) (C0 0 C.unl))) := ⟨by simp, fun i hi n => by rw [get_set_ne (fun z => n z.symm), List.getElem?_append_left hi]⟩
  have l3 : ((S2 ++ [Ob.lst (C.kno.map rwD)]).set L (insC (L + 4) (L + 5) (L + 3) (C0 0 C.unl))).length = L + 6 := by rw [List.length_set]; exact g3
  generalize ((S2 ++ [Ob.lst (C.kno.map rwD)]).set L (insC (L + 4) (L + 5) (L + 3) (C0 0 C.unl))) = S3 at *
  -- bars
  have q4 := cp_new h3 w3 nL (fld_b h3) h3.b
  have E4 : ((S3 ++ [Ob.lst (C.bar.map brD)]).set L (.ins "Closure" (putFD "bars" (.hdl S3.length) (fsC (L + 4) (L + 5) (L + 3) (C0 0 C.unl))))) = ((S3 ++ [Ob.lst (C.bar.map brD)]).set L (insC (L + 4) (L + 5) (L + 6) (C0 0 C.unl))) := by rw [l3]; rfl
  rw [E4] at q4
  have g4 : (S3 ++ [Ob.lst (C.bar.map brD)]).length = L + 7 := by simp [l3]
  have b4 : ((S3 ++ [Ob.lst (C.bar.map brD)]).set L (insC (L + 4) (L + 5) (L + 6) (C0 0 C.unl)))[L + 6]? = some (.lst (C.bar.map brD)) := by rw [get_set_ne (by omega), List.getElem?_append_right (by omega), l3]; simp
  have k4 : ((S3 ++ [Ob.lst (C.bar.map brD)]).set L (insC (L + 4) (L + 5) (L + 6) (C0 0 C.unl)))[L + 5]? = some (.lst (C.kno.map rwD)) := by rw [get_set_ne (by omega), List.getElem?_append_left (by omega)]; exact k3
  have p4 : ((S3 ++ [Ob.lst (C.bar.map brD)]).set L (insC (L + 4) (L + 5) (L + 6) (C0 0 C.unl)))[L + 4]? = some (.lst (nsD C.par)) := by rw [get_set_ne (by omega), List.getElem?_append_left (by omega)]; exact p3
  have w4 : ((S3 ++ [Ob.lst (C.bar.map brD)]).set L (insC (L + 4) (L + 5) (L + 6) (C0 0 C.unl)))[L]? = some (insC (L + 4) (L + 5) (L + 6) (C0 0 C.unl)) := by rw [List.getElem?_set, if_pos rfl, if_pos (by omega)]
  have h4 := (h3.app [.lst (C.bar.map brD)]).put (o := insC (L + 4) (L + 5) (L + 6) (C0 0 C.unl)) nL
  have o4 : OuP (fun i => i = L) S3 ((S3 ++ [Ob.lst (C.bar.map brD)]).set L (insC (L + 4) (L + 5) (L + 6) (C0 0 C.unl))) := ⟨by simp, fun i hi n => by rw [get_set_ne (fun z => n z.symm), List.getElem?_append_left hi]⟩
  have l4 : ((S3 ++ [Ob.lst (C.bar.map brD)]).set L (insC (L + 4) (L + 5) (L + 6) (C0 0 C.unl))).length = L + 7 := by rw [List.length_set]; exact g4
  generalize ((S3 ++ [Ob.lst (C.bar.map brD)]).set L (insC (L + 4) (L + 5) (L + 6) (C0 0 C.unl))) = S4 at *
  -- told, settled
  have q5 := cp_val h4 w4 (fld_t h4)
  have E5 : (Ob.ins "Closure" (putFD "told" (.int (C.told : Int)) (fsC (L + 4) (L + 5) (L + 6) (C0 0 C.unl)))) = insC (L + 4) (L + 5) (L + 6) { C0 0 C.unl with told := C.told } := rfl
  rw [E5] at q5
  have w5 : (S4.set L (insC (L + 4) (L + 5) (L + 6) { C0 0 C.unl with told := C.told }))[L]? = some (insC (L + 4) (L + 5) (L + 6) { C0 0 C.unl with told := C.told }) := get_set_eq w4
  have h5 := h4.put (o := insC (L + 4) (L + 5) (L + 6) { C0 0 C.unl with told := C.told }) nL
  have q6 := cp_val h5 w5 (fld_s h5)
  have E6 : (Ob.ins "Closure" (putFD "settled" (.bl C.set) (fsC (L + 4) (L + 5) (L + 6) { C0 0 C.unl with told := C.told }))) = insC (L + 4) (L + 5) (L + 6) C := rfl
  rw [E6] at q6
  have ff : (S4.set L (insC (L + 4) (L + 5) (L + 6) { C0 0 C.unl with told := C.told })).set L (insC (L + 4) (L + 5) (L + 6) C) = S4.set L (insC (L + 4) (L + 5) (L + 6) C) := List.set_set ..
  rw [ff] at q6
  refine ⟨S4.set L (insC (L + 4) (L + 5) (L + 6) C), ?_, ⟨get_set_eq w4, by rw [get_set_ne (by show L ≠ L + 4; omega)]; exact p4, by rw [get_set_ne (by show L ≠ L + 5; omega)]; exact k4, by rw [get_set_ne (by show L ≠ L + 6; omega)]; exact b4, by show L ≠ L + 4; omega, by show L ≠ L + 5; omega, by show L ≠ L + 6; omega, by show L + 4 ≠ L + 5; omega, by show L + 4 ≠ L + 6; omega, by show L + 5 ≠ L + 6; omega⟩, ⟨by rw [List.length_set]; omega, fun i hi _ => ?_⟩, by rw [List.length_set]; exact l4⟩
  · have e1' : kMkA "Closure" (calls (f + 1) .Closure_init) dl_Closure_2 [.int 0, .lst (nsD C.unl)] S = .ok (.hdl L) S1 := e1
    have fu := fld_u h
    rw [ev_Closure_copied, fb_Closure_copied]
    unfold cpE at *
    generalize sFldH "Closure" "parents" (eVar 1) _ = w1 at *
    generalize sFldH "Closure" "known" (eVar 1) _ = w2 at *
    generalize sFldH "Closure" "bars" (eVar 1) _ = w3 at *
    generalize sFldH "Closure" "told" (eVar 1) _ = w4 at *
    generalize sFldH "Closure" "settled" (eVar 1) _ = w5 at *
    generalize nsD C.unl = z at *
    simp -implicitDefEqProofs [fu, ev_mkH, e1', q2, q3, q4, q5, q6]
  · have n1 : ¬ i = L := by omega
    rw [get_set_ne (by omega), o4.at_ i (by omega) n1, o3.at_ i (by omega) n1, o2.at_ i (by omega) n1, o1.at_ i (by omega) (by simp)]
section
variable {n b lo hi c : Nat} {F : List Fact} {u : List Nat} {S : Sto}
theorem Cl.copied (f : Nat) (h : Cl n F u b lo hi c S) : ∃ S', calls (f + 2) .Closure_copied S [.hdl c] = .ok (.hdl S.length) S' ∧ Cl n F u b S.length (S.length + 7) S.length S' ∧ OuP (fun _ => False) S S' ∧ S'.length = S.length + 7 := by
  obtain ⟨A, C, rfl, h2, h3, h4, h5⟩ := h.cl
  obtain ⟨S', e, c', o, l⟩ := copy_at f h2
  have hc := h2.lt A.c (by simp [CA.ids])
  have hl := h5 A.c (by simp [CA.ids])
  have nb := h.nb
  exact ⟨S', e, ⟨⟨_, C, rfl, c', h3, h4, fun i hi => by simp [CA.ids] at hi; omega⟩, h.sm, h.fl, h.ul, by omega⟩, o, l⟩
theorem made_loop (f : Nat) (hn : n ≤ 150) {fs : List Dv} : ∀ (R G : List Fact) (S : Sto) (x5 : Sl), FIn n R → (∀ f ∈ R, Fact.Sm f) → G.length + R.length < 999 → Cl n G u b lo hi c S → BagAt S b →
    ∃ y5 S', forR (gN 5) (fb_l_made_l0 (calls (f + 4))) (R.map fD) [.va (.hdl b), .va (.int (n : Int)), .va (.tup (nsD u)), .va (.lst fs), .va (.hdl c), x5] S = .nx [.va (.hdl b), .va (.int (n : Int)), .va (.tup (nsD u)), .va (.lst fs), .va (.hdl c), y5] S' ∧ Cl n (G ++ R) u b lo hi c S' ∧ BagAt S' b ∧ Ou b lo hi S S'
  | [], G, S, x5, _, _, _, h, B => ⟨x5, S, rfl, by rw [List.append_nil]; exact h, B, Ou.refl _ _ _ _⟩
  | fa :: R, G, S, x5, hF, hS, hl, h, B => by
    simp only [List.length_cons] at hl
    obtain ⟨S1, e1, c1, b1, o1⟩ := h.tell f hn B (hF fa List.mem_cons_self) (hS fa List.mem_cons_self) (by omega)
    obtain ⟨y5, S2, e2, c2, b2, o2⟩ := made_loop f hn R (G ++ [fa]) S1 (.va (fD fa)) (fun x hx => hF x (List.mem_cons_of_mem _ hx)) (fun x hx => hS x (List.mem_cons_of_mem _ hx)) (by simp; omega) c1 b1
    refine ⟨y5, S2, ?_, by simpa using c2, b2, o1.trans o2⟩
    rw [← e2]
    show forR (gN 5) _ (fD fa :: R.map fD) _ S = _
    refine forR_nx rfl ?_
    unfold fb_l_made_l0
    generalize fD fa = z at *
    generalize nsD u = z2 at *
    simp -implicitDefEqProofs [e1]
theorem made_ok (f : Nat) (hn : n ≤ 150) (B : BagAt S b) (hF : FIn n F) (hS : ∀ f ∈ F, Fact.Sm f) (hFl : F.length < 900) (hu : ∀ x ∈ u, x < n) (hul : u.length ≤ 150) :
    ∃ S', calls (f + 5) .l_made S [.hdl b, .int (n : Int), .tup (nsD u), .lst (F.map fD)] = .ok (.hdl S.length) S' ∧ Cl n F u b S.length (S.length + 4) S.length S' ∧ BagAt S' b ∧ OuP (fun i => i = b) S S' ∧ S.length + 4 ≤ S'.length := by
  obtain ⟨S1, e1, c1, o1, l1⟩ := make_ok (f + 3) S n (by omega) (u := u) (d := .tup (nsD u)) (fun S' o => rfl) (as := [.int (n : Int), .tup (nsD u)]) (dl := dl_Closure_2) rfl
  have ii := ids0 S.length
  have B1 : BagAt S1 b := B.off o1 (by simp)
  have cl1 : Cl n [] u b S.length (S.length + 4) S.length S1 := ⟨⟨A0 S.length, _, rfl, c1, ci_new hu, rfl, ii⟩, (fun _ h => nomatch h), by simp, hul, B.lt⟩
  obtain ⟨y5, S2, e2, c2, b2, o2⟩ := made_loop f hn (fs := F.map fD) F [] S1 .no hF hS (by simp; omega) cl1 B1
  refine ⟨S2, ?_, c2, b2, ⟨by have := o1.len; have := o2.len; omega, fun i hi ni => by rw [o2.at_ i (by have := o1.len; omega) ni (by omega), o1.at_ i hi (by simp)]⟩, by have := o2.len; omega⟩
  have e1' : kMkA "Closure" (calls (f + 4) .Closure_init) dl_Closure_2 [.int (n : Int), .tup (nsD u)] S = .ok (.hdl S.length) S1 := e1
  have sq : ∀ T, seqR (.lst (F.map fD)) T = .ok (F.map fD) T := fun T => rfl
  rw [ev_l_made, fb_l_made]
  generalize fb_l_made_l0 (calls (f + 4)) = w at *
  generalize F.map fD = z at *
  generalize nsD u = z2 at *
  generalize S.length = L at *
  simp -implicitDefEqProofs [ev_mkH, e1', iSq, sq, e2]
theorem copied_ok (f : Nat) (hn : n ≤ 150) (h0 : 0 < n) (B : BagAt S b) (hF : FIn n F) (hS : ∀ f ∈ F, Fact.Sm f) (hFl : F.length < 900) (hu : ∀ x ∈ u, x < n) (hul : u.length ≤ 150) :
    ∃ lo hi c S', calls (f + 6) .l_copied S [.hdl b, .int (n : Int), .tup (nsD u), .lst (F.map fD)] = .ok (.hdl c) S' ∧ Cl n F u b lo hi c S' ∧ BagAt S' b ∧ OuP (fun i => i = b) S S' ∧ S.length ≤ lo ∧ hi ≤ S'.length := by
  obtain ⟨S1, e1, c1, b1, o1, l1⟩ := made_ok f hn B hF hS hFl hu hul
  obtain ⟨w, S2, e2, u2, hw⟩ := takeN (f := f + 5) (by omega) b1 (n := 2) (by omega) (by omega)
  have e2' : calls (f + 5) .l_take S1 [.hdl b, .int 2] = .ok (.int (w : Int)) S2 := e2
  have c2 := c1.bu u2
  have B2 := u2.bag b1
  have l2 := u2.len
  have bL := B.lt
  -- perhaps a copy
  obtain ⟨lo, hi, c, S3, e3, c3, b3, o3, g1, g2⟩ : ∃ lo hi c S3, (sIf (tVal (eBin eqE (eCall (calls (f + 5) .l_take) (aCons (eVar 0) (aCons (eC (.int 2)) aNil))) (eC (.int 0)))) (sAsg 4 (eMeth "Closure" "copied" [] (calls (f + 5) .Closure_copied) (eVar 4) aNil)) sNil) [.va (.hdl b), .va (.int (n : Int)), .va (.tup (nsD u)), .va (.lst (F.map fD)), .va (.hdl S.length)] S1 = .nx [.va (.hdl b), .va (.int (n : Int)), .va (.tup (nsD u)), .va (.lst (F.map fD)), .va (.hdl c)] S3 ∧ Cl n F u b lo hi c S3 ∧ BagAt S3 b ∧ OuP (fun i => i = b) S S3 ∧ S.length ≤ lo ∧ hi ≤ S3.length := by
    by_cases h : w = 0
    · obtain ⟨S3, e3, c3, o3, l3⟩ := c2.copied (f + 3)
      refine ⟨_, _, _, S3, ?_, c3, ?_, (o1.trans u2.toP).trans (o3.mono fun _ z => z.elim), by omega, by omega⟩
      · have k := fun fa e => c2.meth (m := "copied") (g := calls (f + 5) .Closure_copied) (fa := fa) (e := e)
        subst h
        generalize F.map fD = z at *
        generalize nsD u = z2 at *
        simp -implicitDefEqProofs [e2', k, e3]
      · obtain ⟨x, q1, q2⟩ := B2
        exact ⟨x, by rw [o3.at_ b (by omega) (by simp)]; exact q1, q2⟩
    · refine ⟨_, _, _, S2, ?_, c2, B2, o1.trans u2.toP, Nat.le_refl _, by omega⟩
      have n1 : ¬ ((w : Int) = 0) := by omega
      generalize F.map fD = z at *
      generalize nsD u = z2 at *
      simp -implicitDefEqProofs [e2', n1, h]
  have o13 := o3
  obtain ⟨v, S4, e4, u4, hv⟩ := takeN (f := f + 5) (by omega) b3 (n := 3) (by omega) (by omega)
  have e4' : calls (f + 5) .l_take S3 [.hdl b, .int 3] = .ok (.int (v : Int)) S4 := e4
  have c4 := c3.bu u4
  have B4 := u4.bag b3
  have l4 := u4.len
  obtain ⟨S5, e5, c5, b5, o5, g5⟩ : ∃ S5, (sIf (tVal (eBin eqE (eCall (calls (f + 5) .l_take) (aCons (eVar 0) (aCons (eC (.int 3)) aNil))) (eC (.int 0)))) (sSeq (sExpr (eMeth "Closure" "same" [] (calls (f + 5) .Closure_same) (eVar 4) (aCons (eC (.int 0)) (aCons (eBin (pu2 subD) (eVar 1) (eC (.int 1))) aNil)))) (sExpr (eMeth "Closure" "stands" [] (calls (f + 5) .Closure_stands) (eVar 4) aNil))) sNil) [.va (.hdl b), .va (.int (n : Int)), .va (.tup (nsD u)), .va (.lst (F.map fD)), .va (.hdl c)] S3 = .nx [.va (.hdl b), .va (.int (n : Int)), .va (.tup (nsD u)), .va (.lst (F.map fD)), .va (.hdl c)] S5 ∧ Cl n F u b lo hi c S5 ∧ BagAt S5 b ∧ OuP (fun i => i = b) S S5 ∧ hi ≤ S5.length := by
    have o4 := o13.trans u4.toP
    by_cases h : v = 0
    · obtain ⟨E, S5, r5, e5, c5, b5, o5⟩ := c4.same f hn B4 (x := 0) (y := n - 1) h0 (by omega)
      obtain ⟨E6, S6, r6, e6, c6, b6, o6⟩ := c5.stands (f + 1) hn b5
      have e5' : calls (f + 5) .Closure_same S4 [.hdl c, .int 0, .int ((n : Int) - 1)] = .ok (.bl (smE E F u 0 (n - 1))) S5 := by
        rw [show ((n : Int) - 1) = ((n - 1 : Nat) : Int) by omega]; exact e5
      have k := fun fa e => c4.meth (m := "same") (g := calls (f + 5) .Closure_same) (fa := fa) (e := e)
      have k2 := fun fa e => c5.meth (m := "stands") (g := calls (f + 5) .Closure_stands) (fa := fa) (e := e)
      have lS := o13.len
      have l5 := o5.len
      refine ⟨S6, ?_, c6, b6, ⟨by have := o4.len; have := o6.len; omega, fun i hi ni => ?_⟩, by have := o6.len; omega⟩
      · subst h
        generalize F.map fD = z at *
        generalize nsD u = z2 at *
        simp -implicitDefEqProofs [e4', k, e5', k2, e6]
      · rw [o6.at_ i (by omega) ni (.inl (by omega)), o5.at_ i (by omega) ni (.inl (by omega)), o4.at_ i hi ni]
    · refine ⟨S4, ?_, c4, B4, o4, by omega⟩
      have n1 : ¬ ((v : Int) = 0) := by omega
      generalize F.map fD = z at *
      generalize nsD u = z2 at *
      simp -implicitDefEqProofs [e4', n1, h]
  refine ⟨lo, hi, c, S5, ?_, c5, b5, o5, g1, g5⟩
  rw [ev_l_copied, fb_l_copied]
  generalize sIf (tVal (eBin eqE (eCall (calls (f + 5) .l_take) (aCons (eVar 0) (aCons (eC (.int 2)) aNil))) (eC (.int 0)))) _ _ = w1 at *
  generalize sIf (tVal (eBin eqE (eCall (calls (f + 5) .l_take) (aCons (eVar 0) (aCons (eC (.int 3)) aNil))) (eC (.int 0)))) _ _ = w2 at *
  generalize F.map fD = z at *
  generalize nsD u = z2 at *
  simp -implicitDefEqProofs [e1, e3, e5]
end
end DL
namespace DL
open PySem L2
theorem eq_told2 {S : Sto} {hd hd2 : Nat} {ws : List Int} (h : S[hd]? = some (.lst (ws.map Dv.int))) (h2 : S[hd2]? = some (.lst (ws.map Dv.int))) : eqD S (.tup [.str "told", .hdl hd]) (.tup [.str "told", .hdl hd2]) = some true := by
  show (if lenNe (asL S (.tup [.str "told", .hdl hd])) (asL S (.tup [.str "told", .hdl hd2])) then some false else deepE S (.tup [.str "told", .hdl hd]) (.tup [.str "told", .hdl hd2])) = _
  rw [show lenNe (asL S (.tup [.str "told", .hdl hd])) (asL S (.tup [.str "told", .hdl hd2])) = false from rfl, if_neg Bool.false_ne_true]
  have r0 := rps_ints ws
  have t0 : ∀ hd, S[hd]? = some (.lst (ws.map Dv.int)) → toP (res S (.tup [.str "told", .hdl hd])) = some (.tuple [.str "told", .list (ws.map PyData.int)]) := fun hd h => by
    have d1 : deref 39 S (.hdl hd) = .lst ((ws.map Dv.int).map (deref 38 S)) := by
      simp only [deref, h]
    have t0 : toP (deref 39 S (.hdl hd)) = some (.list (ws.map PyData.int)) := by
      rw [d1]
      show (toPs ((ws.map Dv.int).map (deref 38 S))).map PyData.list = _
      rw [r0 38 S]; rfl
    show (toPs [deref 39 S (.str "told"), deref 39 S (.hdl hd)]).map PyData.tuple = _
    unfold toPs
    rw [rp_str "told" 39 S]
    unfold toPs
    rw [t0]; rfl
  refine deep_same (t0 hd h) (t0 hd2 h2) (shaped_of ?_ ?_)
  · simp only [PyData.canLay0, cl_cons, (shaped_ints ws).1]; decide +kernel
  · simp [PyData.depth, da_cons, (shaped_ints ws).2, PyData.depthAll]
theorem eq_refu (S : Sto) : eqD S (.tup [.str "refused"]) (.tup [.str "refused"]) = some true := eq_tup_same S (pl_tup (n := 63) fun d hd => by
  simp only [List.mem_cons, List.not_mem_nil, or_false] at hd
  subst hd
  exact pl_str (by decide +kernel))
section
variable {n b lo hi c lo' hi' c' : Nat} {F : List Fact} {u : List Nat} {S : Sto}
theorem Two.cmp (f : Nat) (hn : n ≤ 150) (h : Two n F u F u b lo hi c lo' hi' c' S) (hh : hi' ≤ S.length) :
    ∃ d1 d2 Sa Sb, calls (f + 6) .l_model S [.hdl c] = .ok d1 Sa ∧ calls (f + 6) .l_model Sa [.hdl c'] = .ok d2 Sb ∧ eqD Sb d1 d2 = some true ∧ Two n F u F u b lo hi c lo' hi' c' Sb ∧ OuP (P2 b lo hi lo' hi') S Sb := by
  obtain ⟨E, Sa, d1, r1, e1, c1, b1, o1, v1⟩ := h.one.model f hn h.bag
  obtain ⟨E2, Sb, d2, r2, e2, c2, b2, o2, v2⟩ := (h.oth.out o1 (by have := h.dis; omega)).model f hn b1
  have hF := h.one.fin
  have st := (oth_id n F u).st hF h.one.uin r1 r2
  have rg : rgs E2 n = rgs E n := (rgs_cong n fun a b ha hb => (oth_id n F u).rt hF r1 r2 ha hb).1
  refine ⟨d1, d2, Sa, Sb, e1, e2, ?_, ⟨c1.out o2 (by have := h.dis; omega), c2, b2, h.dis⟩, (o1.toP.mono fun i z => by unfold P2; omega).trans (o2.toP.mono fun i z => by unfold P2; omega)⟩
  rcases v1 with ⟨a1, hd, rfl, a2, a3⟩ | ⟨a1, rfl⟩ <;> rcases v2 with ⟨g1, hd2, rfl, g2, g3⟩ | ⟨g1, rfl⟩
  · rw [rg] at g3
    have bl := h.bag.lt
    have a4 := o2.at_ hd ((List.getElem?_eq_some_iff.mp a3).1) (by omega) (.inr (by omega))
    rw [a3] at a4
    rw [nsD_icast] at a4 g3
    exact eq_told2 a4 g3
  · rw [a1, g1] at st; cases st
  · rw [a1, g1] at st; cases st
  · exact eq_refu Sb
def pE (b n : Nat) (u : List Nat) (fs : List Dv) (c1 c2 : Nat) (x6 x7 x8 x9 x10 x11 x12 : Sl) : Env := [.va (.hdl b), .va (.int (n : Int)), .va (.tup (nsD u)), .va (.lst fs), .va (.hdl c1), .va (.hdl c2), x6, x7, x8, x9, x10, x11, x12]
theorem app6 (S : Sto) (E : Env) (i : Nat) (G : List Fact) (fa : Fact) (hl : G.length < 5000) : qOwnM appD i (G.map fD) E [fD fa] S = .nx (E.set i (.ow ((G ++ [fa]).map fD))) S := by
  rw [qOwnM_app S E (fD fa) (G.map fD) i (by rw [List.length_map, sizeLine_eq]; omega)]
  simp
theorem apart_step (f : Nat) (hn : n ≤ 150) (h0 : 0 < n) {G G' : List Fact} (h : Two n G u G' u b lo hi c lo' hi' c' S) (hl : G.length + G'.length < 900) {fs : List Dv} (x8 x9 x10 x11 x12 : Sl) :
    ∃ G1 G1' y9 S', fb_l_apart_l0 (calls (f + 6)) (pE b n u fs c c' (.ow (G.map fD)) (.ow (G'.map fD)) x8 x9 x10 x11 x12) S = .nx (pE b n u fs c c' (.ow (G1.map fD)) (.ow (G1'.map fD)) x8 y9 x10 x11 x12) S' ∧ Two n G1 u G1' u b lo hi c lo' hi' c' S' ∧ OuP (P2 b lo hi lo' hi') S S' ∧ G1.length + G1'.length = G.length + G'.length + 1 := by
  obtain ⟨fa, S1, e1, u1, i1, s1⟩ := fact_ok (f + 3) b h.bag (n := n) (by omega)
  obtain ⟨t1, o1⟩ := h.bu u1
  obtain ⟨w, S2, e2, u2, hw⟩ := takeN (f := f + 6) (by omega) t1.bag (n := 2) (by omega) (by omega)
  have e2' : calls (f + 6) .l_take S1 [.hdl b, .int 2] = .ok (.int (w : Int)) S2 := e2
  obtain ⟨t2, o2⟩ := t1.bu u2
  obtain ⟨G1, G1', S3, e3, t3, o3, l3⟩ : ∃ G1 G1' S3, (sIf (tVal (eBin eqE (eCall (calls (f + 6) .l_take) (aCons (eVar 0) (aCons (eC (.int 2)) aNil))) (eC (.int 0)))) (sSeq (sExpr (eCall (calls (f + 6) .l_tell) (aCons (eVar 0) (aCons (eVar 4) (aCons (eVar 9) aNil))))) (sOwnM appD 6 (aCons (eVar 9) aNil))) (sSeq (sExpr (eCall (calls (f + 6) .l_tell) (aCons (eVar 0) (aCons (eVar 5) (aCons (eVar 9) aNil))))) (sOwnM appD 7 (aCons (eVar 9) aNil)))) (pE b n u fs c c' (.ow (G.map fD)) (.ow (G'.map fD)) x8 (.va (fD fa)) x10 x11 x12) S1 = .nx (pE b n u fs c c' (.ow (G1.map fD)) (.ow (G1'.map fD)) x8 (.va (fD fa)) x10 x11 x12) S3 ∧ Two n G1 u G1' u b lo hi c lo' hi' c' S3 ∧ OuP (P2 b lo hi lo' hi') S2 S3 ∧ G1.length + G1'.length = G.length + G'.length + 1 := by
    by_cases h0 : w = 0
    · obtain ⟨S3, e3, c3, b3, o3⟩ := t2.one.tell (f + 2) hn t2.bag i1 s1 (by omega)
      refine ⟨G ++ [fa], G', S3, ?_, ⟨c3, t2.oth.out o3 (by have := t2.dis; omega), b3, t2.dis⟩, o3.toP.mono fun i z => by unfold P2; omega, by simp; omega⟩
      subst h0
      have ap := fun T => app6 T (pE b n u fs c c' (.ow (G.map fD)) (.ow (G'.map fD)) x8 (.va (fD fa)) x10 x11 x12) 6 G fa (by omega)
      unfold pE at *
      generalize (G ++ [fa]).map fD = z1 at *
      generalize G.map fD = z2 at *
      generalize G'.map fD = z3 at *
      generalize fD fa = z4 at *
      generalize nsD u = z5 at *
      simp -implicitDefEqProofs [e2', e3, ap]
    · obtain ⟨S3, e3, c3, b3, o3⟩ := t2.oth.tell (f + 2) hn t2.bag i1 s1 (by omega)
      refine ⟨G, G' ++ [fa], S3, ?_, ⟨t2.one.out o3 (by have := t2.dis; omega), c3, b3, t2.dis⟩, o3.toP.mono fun i z => by unfold P2; omega, by simp; omega⟩
      have n1 : ¬ ((w : Int) = 0) := by omega
      have ap := fun T => app6 T (pE b n u fs c c' (.ow (G.map fD)) (.ow (G'.map fD)) x8 (.va (fD fa)) x10 x11 x12) 7 G' fa (by omega)
      unfold pE at *
      generalize (G' ++ [fa]).map fD = z1 at *
      generalize G.map fD = z2 at *
      generalize G'.map fD = z3 at *
      generalize fD fa = z4 at *
      generalize nsD u = z5 at *
      simp -implicitDefEqProofs [e2', n1, h0, e3, ap]
  obtain ⟨v, S4, e4, u4, hv⟩ := takeN (f := f + 6) (by omega) t3.bag (n := 3) (by omega) (by omega)
  have e4' : calls (f + 6) .l_take S3 [.hdl b, .int 3] = .ok (.int (v : Int)) S4 := e4
  obtain ⟨t4, o4⟩ := t3.bu u4
  obtain ⟨S5, e5, t5, o5⟩ : ∃ S5, (sIf (tVal (eBin eqE (eCall (calls (f + 6) .l_take) (aCons (eVar 0) (aCons (eC (.int 3)) aNil))) (eC (.int 0)))) (sSeq (sExpr (eMeth "Closure" "stands" [] (calls (f + 6) .Closure_stands) (eVar 4) aNil)) (sExpr (eMeth "Closure" "same" [] (calls (f + 6) .Closure_same) (eVar 5) (aCons (eC (.int 0)) (aCons (eBin (pu2 subD) (eVar 1) (eC (.int 1))) aNil))))) sNil) (pE b n u fs c c' (.ow (G1.map fD)) (.ow (G1'.map fD)) x8 (.va (fD fa)) x10 x11 x12) S3 = .nx (pE b n u fs c c' (.ow (G1.map fD)) (.ow (G1'.map fD)) x8 (.va (fD fa)) x10 x11 x12) S5 ∧ Two n G1 u G1' u b lo hi c lo' hi' c' S5 ∧ OuP (P2 b lo hi lo' hi') S3 S5 := by
    by_cases h1 : v = 0
    · obtain ⟨E, S5, r5, e5, t5, o5⟩ := t4.s1 (f + 2) hn
      obtain ⟨E6, S6, r6, e6, t6, o6⟩ := t5.m2 (f + 1) hn (x := 0) (y := n - 1) h0 (by omega)
      have e6' : calls (f + 6) .Closure_same S5 [.hdl c', .int 0, .int ((n : Int) - 1)] = .ok (.bl (smE E6 G1' u 0 (n - 1))) S6 := by
        rw [show ((n : Int) - 1) = ((n - 1 : Nat) : Int) by omega]; exact e6
      have k := fun fa e => t4.one.meth (m := "stands") (g := calls (f + 6) .Closure_stands) (fa := fa) (e := e)
      have k2 := fun fa e => t5.oth.meth (m := "same") (g := calls (f + 6) .Closure_same) (fa := fa) (e := e)
      refine ⟨S6, ?_, t6, (o4.trans o5).trans o6⟩
      subst h1
      unfold pE
      generalize G1.map fD = z2 at *
      generalize G1'.map fD = z3 at *
      generalize fD fa = z4 at *
      generalize nsD u = z5 at *
      simp -implicitDefEqProofs [e4', k, e5, k2, e6']
    · refine ⟨S4, ?_, t4, o4⟩
      have n1 : ¬ ((v : Int) = 0) := by omega
      unfold pE
      generalize G1.map fD = z2 at *
      generalize G1'.map fD = z3 at *
      generalize fD fa = z4 at *
      generalize nsD u = z5 at *
      simp -implicitDefEqProofs [e4', n1, h1]
  refine ⟨G1, G1', .va (fD fa), S5, ?_, t5, ((o1.trans o2).trans o3).trans o5, l3⟩
  have a1 : sAsg 9 (eCall (calls (f + 6) .l_fact) (aCons (eVar 0) (aCons (eVar 1) aNil))) (pE b n u fs c c' (.ow (G.map fD)) (.ow (G'.map fD)) x8 x9 x10 x11 x12) S = .nx (pE b n u fs c c' (.ow (G.map fD)) (.ow (G'.map fD)) x8 (.va (fD fa)) x10 x11 x12) S1 := by
    unfold pE
    generalize fD fa = z4 at *
    generalize G.map fD = z2 at *
    generalize G'.map fD = z3 at *
    generalize nsD u = z5 at *
    simp -implicitDefEqProofs [e1]
  unfold fb_l_apart_l0
  rw [ev_seq, a1, kSeq_nx, ev_seq, e3, kSeq_nx]
  exact e5
theorem apart_loop (f : Nat) (hn : n ≤ 150) (h0 : 0 < n) {fs : List Dv} : ∀ (ds : List Dv) (G G' : List Fact) (S : Sto) (x8 x9 x10 x11 x12 : Sl), Two n G u G' u b lo hi c lo' hi' c' S → G.length + G'.length + ds.length < 900 →
    ∃ G1 G1' y8 y9 S', forR (gN 8) (fb_l_apart_l0 (calls (f + 6))) ds (pE b n u fs c c' (.ow (G.map fD)) (.ow (G'.map fD)) x8 x9 x10 x11 x12) S = .nx (pE b n u fs c c' (.ow (G1.map fD)) (.ow (G1'.map fD)) y8 y9 x10 x11 x12) S' ∧ Two n G1 u G1' u b lo hi c lo' hi' c' S' ∧ OuP (P2 b lo hi lo' hi') S S' ∧ G1.length + G1'.length < 900
  | [], G, G', S, x8, x9, x10, x11, x12, h, hl => ⟨G, G', x8, x9, S, rfl, h, OuP.refl _ _, by simpa using hl⟩
  | d :: ds, G, G', S, x8, x9, x10, x11, x12, h, hl => by
    simp only [List.length_cons] at hl
    obtain ⟨G1, G1', y9, S1, e1, t1, o1, l1⟩ := apart_step f hn h0 h (by omega) (fs := fs) (.va d) x9 x10 x11 x12
    obtain ⟨G2, G2', z8, z9, S2, e2, t2, o2, l2⟩ := apart_loop f hn h0 (fs := fs) ds G1 G1' S1 (.va d) y9 x10 x11 x12 t1 (by omega)
    exact ⟨G2, G2', z8, z9, S2, by rw [← e2]; exact forR_nx rfl e1, t2, o1.trans o2, l2⟩
end
end DL
namespace DL
open PySem L2
theorem rnF_id {n : Nat} {s : Nat → Nat} (h : ∀ a, a < n → s a = a) {f : Fact} (hf : f.In n) : rnF s f = f := by
  have hm : ∀ as : List Nat, (∀ x ∈ as, x < n) → as.map s = as := fun as ha => by
    conv => rhs; rw [← List.map_id as]
    exact List.map_congr_left fun x hx => h x (ha x hx)
  cases f with
  | join a b => simp only [rnF, h a hf.1, h b hf.2]
  | row g as v => simp only [rnF, h v hf.2, hm as hf.1]
  | bar ps =>
    have hp : ps.map (fun q => (s q.1, s q.2)) = ps := by
      conv => rhs; rw [← List.map_id ps]
      exact List.map_congr_left fun q hq => by
        obtain ⟨h1, h2⟩ := hf q hq
        exact Prod.ext (h _ h1) (h _ h2)
    simp only [rnF, hp]
theorem ord_rng {n a : Nat} (h : a < n) : ordF (List.range n) a = a := by
  unfold ordF
  rw [List.getD_eq_getElem?_getD, List.getElem?_range h]; rfl
theorem oth_rng {n : Nat} {F : List Fact} {u : List Nat} (hF : FIn n F) (hu : ∀ x ∈ u, x < n) : Oth n (ordF (List.range n)) (fun i => i) F u F u := by
  refine ⟨⟨fun a h => by rw [ord_rng h]; exact h, fun a h => ord_rng h⟩, fun f' => ⟨fun h => ⟨f', h, (rnF_id (fun a h => ord_rng h) (hF _ h)).symm⟩, fun ⟨f, h, e⟩ => by rw [e, rnF_id (fun a h => ord_rng h) (hF _ h)]; exact h⟩, ?_, rfl⟩
  conv => lhs; rw [← List.map_id u]
  exact List.map_congr_left fun x hx => (ord_rng (hu x hx)).symm
structure Q4 (n : Nat) (G G' : List Fact) (u : List Nat) (b lo1 hi1 c1 lo2 hi2 c2 lo3 hi3 c3 lo4 hi4 c4 : Nat) (S : Sto) : Prop where
  q1 : Cl n G u b lo1 hi1 c1 S
  q2 : Cl n G' u b lo2 hi2 c2 S
  q3 : Cl n G u b lo3 hi3 c3 S
  q4 : Cl n G' u b lo4 hi4 c4 S
  bag : BagAt S b
  l1 : hi1 ≤ lo2
  l2 : hi2 ≤ lo3
  l3 : hi3 ≤ lo4
  l4 : hi4 ≤ S.length
  w1 : lo1 ≤ hi1
  w2 : lo2 ≤ hi2
  w3 : lo3 ≤ hi3
  w4 : lo4 ≤ hi4
section
variable {n b lo1 hi1 c1 lo2 hi2 c2 lo3 hi3 c3 lo4 hi4 c4 : Nat} {G G' : List Fact} {u : List Nat} {S : Sto}
theorem Q4.two13 (q : Q4 n G G' u b lo1 hi1 c1 lo2 hi2 c2 lo3 hi3 c3 lo4 hi4 c4 S) : Two n G u G u b lo1 hi1 c1 lo3 hi3 c3 S := ⟨q.q1, q.q3, q.bag, .inl (by have := q.l1; have := q.l2; have := q.w2; omega)⟩
theorem Q4.two24 (q : Q4 n G G' u b lo1 hi1 c1 lo2 hi2 c2 lo3 hi3 c3 lo4 hi4 c4 S) : Two n G' u G' u b lo2 hi2 c2 lo4 hi4 c4 S := ⟨q.q2, q.q4, q.bag, .inl (by have := q.l2; have := q.l3; have := q.w3; omega)⟩
theorem Q4.of13 (q : Q4 n G G' u b lo1 hi1 c1 lo2 hi2 c2 lo3 hi3 c3 lo4 hi4 c4 S) {S' : Sto} (t : Two n G u G u b lo1 hi1 c1 lo3 hi3 c3 S') (o : OuP (P2 b lo1 hi1 lo3 hi3) S S') : Q4 n G G' u b lo1 hi1 c1 lo2 hi2 c2 lo3 hi3 c3 lo4 hi4 c4 S' := by
  obtain ⟨p1, p2, p3, p4, bg, l1, l2, l3, l4, w1, w2, w3, w4⟩ := q
  have n2 := p2.nb
  have n4 := p4.nb
  exact ⟨t.one, p2.outP o fun i h1 h2 z => by unfold P2 at z; omega, t.oth, p4.outP o fun i h1 h2 z => by unfold P2 at z; omega, t.bag, l1, l2, l3, by have := o.len; omega, w1, w2, w3, w4⟩
theorem Q4.of24 (q : Q4 n G G' u b lo1 hi1 c1 lo2 hi2 c2 lo3 hi3 c3 lo4 hi4 c4 S) {S' : Sto} (t : Two n G' u G' u b lo2 hi2 c2 lo4 hi4 c4 S') (o : OuP (P2 b lo2 hi2 lo4 hi4) S S') : Q4 n G G' u b lo1 hi1 c1 lo2 hi2 c2 lo3 hi3 c3 lo4 hi4 c4 S' := by
  obtain ⟨p1, p2, p3, p4, bg, l1, l2, l3, l4, w1, w2, w3, w4⟩ := q
  have n1 := p1.nb
  have n3 := p3.nb
  exact ⟨p1.outP o fun i h1 h2 z => by unfold P2 at z; omega, t.one, p3.outP o fun i h1 h2 z => by unfold P2 at z; omega, t.oth, t.bag, l1, l2, l3, by have := o.len; omega, w1, w2, w3, w4⟩
theorem Q4.bu (q : Q4 n G G' u b lo1 hi1 c1 lo2 hi2 c2 lo3 hi3 c3 lo4 hi4 c4 S) {S' : Sto} (w : BU b S S') : Q4 n G G' u b lo1 hi1 c1 lo2 hi2 c2 lo3 hi3 c3 lo4 hi4 c4 S' :=
  ⟨q.q1.bu w, q.q2.bu w, q.q3.bu w, q.q4.bu w, w.bag q.bag, q.l1, q.l2, q.l3, by rw [w.len]; exact q.l4, q.w1, q.w2, q.w3, q.w4⟩
def pZ (b n : Nat) (u : List Nat) (fs : List Dv) (c1 c2 : Nat) (G G' : List Fact) (x8 x9 : Sl) (c3 c4 : Nat) : Env := [.va (.hdl b), .va (.int (n : Int)), .va (.tup (nsD u)), .va (.lst fs), .va (.hdl c1), .va (.hdl c2), .va (.lst (G.map fD)), .va (.lst (G'.map fD)), x8, x9, .va (.lst (nsD (List.range n))), .va (.hdl c3), .va (.hdl c4)]
def z1 (c : Fn → DF) : DS := (sIf (tAnd' (tVal (eBin eqE (eCall (c .l_take) (aCons (eVar 0) (aCons (eC (.int 2)) aNil))) (eC (.int 0)))) (tVal (eBin neE (eCall (c .l_model) (aCons (eVar 4) aNil)) (eCall (c .l_model) (aCons (eVar 11) aNil))))) (sRet (eC (.bl false))) sNil)
def z2 (c : Fn → DF) : DS := (sIf (tOr' (tNot' (tTru (eCall (c .l_alike) (aCons (eVar 0) (aCons (eVar 5) (aCons (eVar 12) (aCons (eVar 10) aNil))))))) (tNot' (tTru (eCall (c .l_alike) (aCons (eVar 0) (aCons (eVar 4) (aCons (eVar 11) (aCons (eVar 10) aNil)))))))) (sRet (eC (.bl false))) sNil)
def z3 (c : Fn → DF) : DS := (sIf (tVal (eBin neE (eCall (c .l_model) (aCons (eMeth "Closure" "copied" [] (c .Closure_copied) (eVar 5) aNil) aNil)) (eCall (c .l_model) (aCons (eVar 12) aNil)))) (sRet (eC (.bl false))) sNil)
def z4 (c : Fn → DF) : DS := (sRet (eBin eqE (eCall (c .l_model) (aCons (eVar 4) aNil)) (eCall (c .l_model) (aCons (eVar 11) aNil))))
variable {fs : List Dv}
theorem z1_ok (f : Nat) (hn : n ≤ 150) (q : Q4 n G G' u b lo1 hi1 c1 lo2 hi2 c2 lo3 hi3 c3 lo4 hi4 c4 S) (x8 x9 : Sl) : ∃ S', z1 (calls (f + 6)) (pZ b n u fs c1 c2 G G' x8 x9 c3 c4) S = .nx (pZ b n u fs c1 c2 G G' x8 x9 c3 c4) S' ∧ Q4 n G G' u b lo1 hi1 c1 lo2 hi2 c2 lo3 hi3 c3 lo4 hi4 c4 S' := by
  obtain ⟨w, S1, e1, u1, hw⟩ := takeN (f := f + 6) (by omega) q.bag (n := 2) (by omega) (by omega)
  have e1' : calls (f + 6) .l_take S [.hdl b, .int 2] = .ok (.int (w : Int)) S1 := e1
  have q1 := q.bu u1
  by_cases h : w = 0
  · obtain ⟨d1, d2, Sa, Sb, k1, k2, k3, t, o⟩ := q1.two13.cmp f hn (by have := q1.l3; have := q1.l4; have := q1.w4; omega)
    refine ⟨Sb, ?_, q1.of13 t o⟩
    subst h
    unfold z1 pZ
    generalize G.map fD = y1 at *
    generalize G'.map fD = y2 at *
    generalize nsD u = y3 at *
    generalize nsD (List.range n) = y4 at *
    simp -implicitDefEqProofs [e1', k1, k2, k3]
  · refine ⟨S1, ?_, q1⟩
    have n1 : ¬ ((w : Int) = 0) := by omega
    unfold z1 pZ
    generalize G.map fD = y1 at *
    generalize G'.map fD = y2 at *
    generalize nsD u = y3 at *
    generalize nsD (List.range n) = y4 at *
    simp -implicitDefEqProofs [e1', n1, h]
theorem z2_ok (f : Nat) (hn : n ≤ 150) (q : Q4 n G G' u b lo1 hi1 c1 lo2 hi2 c2 lo3 hi3 c3 lo4 hi4 c4 S) (x8 x9 : Sl) : ∃ S', z2 (calls (f + 6)) (pZ b n u fs c1 c2 G G' x8 x9 c3 c4) S = .nx (pZ b n u fs c1 c2 G G' x8 x9 c3 c4) S' ∧ Q4 n G G' u b lo1 hi1 c1 lo2 hi2 c2 lo3 hi3 c3 lo4 hi4 c4 S' := by
  obtain ⟨S1, e1, t1, o1⟩ := alike_ok f hn (oth_rng q.q2.fin q.q2.uin) (by simp) q.two24
  have q1 := q.of24 t1 o1
  obtain ⟨S2, e2, t2, o2⟩ := alike_ok f hn (oth_rng q1.q1.fin q1.q1.uin) (by simp) q1.two13
  refine ⟨S2, ?_, q1.of13 t2 o2⟩
  unfold z2 pZ
  generalize G.map fD = y1 at *
  generalize G'.map fD = y2 at *
  generalize nsD u = y3 at *
  generalize nsD (List.range n) = y4 at *
  simp -implicitDefEqProofs [e1, e2]
theorem z3_ok (f : Nat) (hn : n ≤ 150) (q : Q4 n G G' u b lo1 hi1 c1 lo2 hi2 c2 lo3 hi3 c3 lo4 hi4 c4 S) (x8 x9 : Sl) : ∃ S', z3 (calls (f + 6)) (pZ b n u fs c1 c2 G G' x8 x9 c3 c4) S = .nx (pZ b n u fs c1 c2 G G' x8 x9 c3 c4) S' ∧ Q4 n G G' u b lo1 hi1 c1 lo2 hi2 c2 lo3 hi3 c3 lo4 hi4 c4 S' := by
  obtain ⟨S1, e1, k1, o1, l1⟩ := q.q2.copied (f + 4)
  have bl := q.bag.lt
  have f1 : ∀ {F : List Fact} {lo hi c : Nat}, Cl n F u b lo hi c S → Cl n F u b lo hi c S1 := fun h => h.outP o1 fun _ _ _ z => z
  have B1 : BagAt S1 b := by
    obtain ⟨x, h1, h2⟩ := q.bag
    exact ⟨x, by rw [o1.at_ b bl (fun z => z)]; exact h1, h2⟩
  have l4 := q.l4
  have t : Two n G' u G' u b S.length (S.length + 7) S.length lo4 hi4 c4 S1 := ⟨k1, f1 q.q4, B1, .inr l4⟩
  obtain ⟨d1, d2, Sa, Sb, k2, k3, k4, t2, o2⟩ := t.cmp f hn (by omega)
  have hk := fun fa e => q.q2.meth (m := "copied") (g := calls (f + 6) .Closure_copied) (fa := fa) (e := e)
  have g1 := q.l1; have g2 := q.l2; have g3 := q.l3; have w1 := q.w1; have w2 := q.w2; have w3 := q.w3; have w4 := q.w4
  have m1 := q.q1.nb; have m2 := q.q2.nb; have m3 := q.q3.nb
  refine ⟨Sb, ?_, ⟨(f1 q.q1).outP o2 fun i h1 h2 z => by unfold P2 at z; omega, (f1 q.q2).outP o2 fun i h1 h2 z => by unfold P2 at z; omega, (f1 q.q3).outP o2 fun i h1 h2 z => by unfold P2 at z; omega, t2.oth, t2.bag, g1, g2, g3, by have := o2.len; omega, w1, w2, w3, w4⟩⟩
  unfold z3 pZ
  generalize G.map fD = y1 at *
  generalize G'.map fD = y2 at *
  generalize nsD u = y3 at *
  generalize nsD (List.range n) = y4 at *
  simp -implicitDefEqProofs [hk, e1, k2, k3, k4]
theorem z4_ok (f : Nat) (hn : n ≤ 150) (q : Q4 n G G' u b lo1 hi1 c1 lo2 hi2 c2 lo3 hi3 c3 lo4 hi4 c4 S) (x8 x9 : Sl) : ∃ S', z4 (calls (f + 6)) (pZ b n u fs c1 c2 G G' x8 x9 c3 c4) S = .rt (.bl true) S' ∧ BagAt S' b := by
  obtain ⟨d1, d2, Sa, Sb, k1, k2, k3, t, o⟩ := q.two13.cmp f hn (by have := q.l3; have := q.l4; have := q.w4; omega)
  refine ⟨Sb, ?_, t.bag⟩
  unfold z4 pZ
  generalize G.map fD = y1 at *
  generalize G'.map fD = y2 at *
  generalize nsD u = y3 at *
  generalize nsD (List.range n) = y4 at *
  simp -implicitDefEqProofs [k1, k2, k3]
end
section
variable {n b : Nat} {F : List Fact} {u : List Nat} {S : Sto}
theorem apart_ok (f : Nat) (hn : n ≤ 150) (h0 : 0 < n) (B : BagAt S b) (hF : FIn n F) (hS : ∀ f ∈ F, Fact.Sm f) (hFl : F.length < 400) (hu : ∀ x ∈ u, x < n) (hul : u.length ≤ 150) :
    ∃ S', calls (f + 7) .l_apart S [.hdl b, .int (n : Int), .tup (nsD u), .lst (F.map fD)] = .ok (.bl true) S' ∧ BagAt S' b := by
  obtain ⟨lo1, hi1, c1, S1, e1, k1, B1, o1, g1, g2⟩ := copied_ok f hn h0 B hF hS (by omega) hu hul
  obtain ⟨S2, e2, k2, o2, l2⟩ := k1.copied (f + 4)
  have m2 := fun fa e => k1.meth (m := "copied") (g := calls (f + 6) .Closure_copied) (fa := fa) (e := e)
  have bl1 := B1.lt
  have B2 : BagAt S2 b := by
    obtain ⟨x, h1, h2⟩ := B1
    exact ⟨x, by rw [o2.at_ b bl1 (fun z => z)]; exact h1, h2⟩
  have t2 : Two n F u F u b lo1 hi1 c1 S1.length (S1.length + 7) S1.length S2 := ⟨k1.outP o2 fun _ _ _ z => z, k2, B2, .inl g2⟩
  obtain ⟨w, S3, e3, u3, hw⟩ := takeN (f := f + 6) (by omega) B2 (n := 6) (by omega) (by omega)
  have e3' : calls (f + 6) .l_take S2 [.hdl b, .int 6] = .ok (.int (w : Int)) S3 := e3
  obtain ⟨t3, _⟩ := t2.bu u3
  obtain ⟨G, G', y8, y9, S4, e4, t4, o4, l4⟩ := apart_loop f hn h0 (fs := F.map fD) (rngD 0 w) F F S3 .no .no .no .no .no t3 (by simp [rngD]; omega)
  obtain ⟨S5, e5, k5, B5, o5, l5⟩ := made_ok (f + 1) hn t4.bag t4.one.fin t4.one.sm (by omega) hu hul
  obtain ⟨S6, e6, k6, B6, o6, l6⟩ := made_ok (f + 1) hn B5 t4.oth.fin t4.oth.sm (by omega) hu hul
  have q6 : Q4 n G G' u b lo1 hi1 c1 S1.length (S1.length + 7) S1.length S4.length (S4.length + 4) S4.length S5.length (S5.length + 4) S5.length S6 := by
    have l3 := u3.len
    have l4 := o4.len
    have n1 := t4.one.nb
    have n2 := t4.oth.nb
    have n3 := k5.nb
    have lw : lo1 ≤ hi1 := by
      obtain ⟨A, C, _, h2, _, _, h5⟩ := k1.cl
      have := h5 A.c (by simp [CA.ids])
      omega
    exact ⟨(t4.one.outP o5 fun i h1 h2 z => by omega).outP o6 fun i h1 h2 z => by omega, (t4.oth.outP o5 fun i h1 h2 z => by omega).outP o6 fun i h1 h2 z => by omega, k5.outP o6 fun i h1 h2 z => by omega, k6, B6, g2, by omega, l5, l6, lw, by omega, by omega, by omega⟩
  obtain ⟨S7, e7, q7⟩ := z1_ok f hn q6 y8 y9 (fs := F.map fD)
  obtain ⟨S8, e8, q8⟩ := z2_ok f hn q7 y8 y9 (fs := F.map fD)
  obtain ⟨S9, e9, q9⟩ := z3_ok f hn q8 y8 y9 (fs := F.map fD)
  obtain ⟨S10, e10, B10⟩ := z4_ok f hn q9 y8 y9 (fs := F.map fD)
  refine ⟨S10, ?_, B10⟩
  have rk := rngR1_ok S3 (w : Int) ⟨by omega, by omega⟩
  rw [Int.toNat_natCast] at rk
  have rk1 : rngK1 (.int (n : Int)) S4 = .ok (nsD (List.range n)) S4 := by
    unfold rngK1
    show (if 0 ≤ (n : Int) ∧ (n : Int) ≤ 16777216 then _ else _) = _
    rw [if_pos (by omega), Int.toNat_natCast, rng_nsD]
  rw [ev_l_apart, fb_l_apart]
  show kRun (sSeq _ (sSeq _ (sSeq _ (sSeq _ (sSeq _ (sSeq _ (sSeq _ (sSeq (z1 (calls (f + 6))) (sSeq (z2 (calls (f + 6))) (sSeq (z3 (calls (f + 6))) (z4 (calls (f + 6)))))))))))) _ S) = _
  unfold pZ pE at *
  generalize z1 (calls (f + 6)) = Z1 at *
  generalize z2 (calls (f + 6)) = Z2 at *
  generalize z3 (calls (f + 6)) = Z3 at *
  generalize z4 (calls (f + 6)) = Z4 at *
  generalize fb_l_apart_l0 (calls (f + 6)) = w0 at *
  generalize F.map fD = y1 at *
  generalize G.map fD = y2 at *
  generalize G'.map fD = y3 at *
  generalize nsD u = y4 at *
  generalize nsD (List.range n) = y5 at *
  generalize rngD 0 w = y6 at *
  simp -implicitDefEqProofs [e1, m2, e2, e3', rk, e4, rk1, sFz, frzO, e5, e6, e7, e8, e9, e10]
theorem renamed_ok (f : Nat) {o : List Nat} (ho : o.length = n) {fa : Fact} (hi : fa.In n) (hs : fa.Sm) (S : Sto) : calls (f + 1) .l_renamed S [fD fa, .lst (nsD o)] = .ok (fD (rnF (ordF o) fa)) S := by
  have ix := fun (i : Nat) (h : i < n) => ord_ix S (l := o) (i := i) (by omega)
  rw [ev_l_renamed, fb_l_renamed]
  cases fa with
  | join a c =>
    have i1 := ix a hi.1
    have i2 := ix c hi.2
    unfold fD rnF
    generalize nsD o = z at *
    simp -implicitDefEqProofs [ix0, ix1, ix2, i1, i2]
  | row g as v =>
    have hal : as.length ≤ 4 := hs
    have s1 : ¬ (((("row" : Str)) = "join")) := by decide +kernel
    have i2 := ix v hi.2
    have lc : ∀ (as : List Nat), (∀ x ∈ as, x < n) → lcR (gN 2) tTrue (eBin ixD (eVar 1) (eVar 2)) [.va (fD (.row g as v)), .va (.lst (nsD o)), .no, .no] (nsD as) S = .ok (nsD (as.map (ordF o))) S := by
      intro as ha
      generalize fD (.row g as v) = fd
      induction as with
      | nil => rfl
      | cons a as ih =>
        have ih := ih fun x hx => ha x (List.mem_cons_of_mem _ hx)
        have i1 := ix a (ha a List.mem_cons_self)
        unfold nsD at ih i1 ⊢
        rw [List.map_cons, List.map_cons, List.map_cons]
        refine lcR_t (e1 := [.va fd, .va (.lst (List.map (fun (i : Nat) => Dv.int (i : Int)) o)), .va (.int (a : Int)), .no]) (S1 := S) (S2 := S) rfl rfl ?_ ih
        generalize (List.map (fun (i : Nat) => Dv.int (i : Int)) o) = z at *
        simp [i1]
    have lc := lc as hi.1
    have hlen : (nsD (as.map (ordF o))).length ≤ 16777216 := by rw [nsD_len, List.length_map]; omega
    have sq : seqR (.tup (nsD as)) S = .ok (nsD as) S := rfl
    unfold rnF
    simp only [fD] at *
    generalize nsD (as.map (ordF o)) = y1 at *
    generalize nsD as = y2 at *
    generalize nsD o = z at *
    generalize hte : eBin ixD (eVar 1) (eVar 2) = te at *
    simp -implicitDefEqProofs [ix0, ix1, ix2, ix3, i2, s1, iSq, sq, lc, kLcEnd' _ _ hlen]
  | bar ps =>
    have hal : ps.length ≤ 6 := hs
    have s1 : ¬ (((("not" : Str)) = "join")) := by decide +kernel
    have s2 : ¬ (((("not" : Str)) = "row")) := by decide +kernel
    have lc : ∀ (ps : List (Nat × Nat)), (∀ q ∈ ps, q.1 < n ∧ q.2 < n) → lcR (gN 3) tTrue (eTup (aCons (eBin ixD (eVar 1) (eBin ixD (eVar 3) (eC (.int 0)))) (aCons (eBin ixD (eVar 1) (eBin ixD (eVar 3) (eC (.int 1)))) aNil))) [.va (fD (.bar ps)), .va (.lst (nsD o)), .no, .no] (ps.map pqD) S = .ok ((ps.map fun q => (ordF o q.1, ordF o q.2)).map pqD) S := by
      intro ps hp
      generalize fD (.bar ps) = fd
      induction ps with
      | nil => rfl
      | cons q ps ih =>
        have ih := ih fun x hx => hp x (List.mem_cons_of_mem _ hx)
        obtain ⟨h1, h2⟩ := hp q List.mem_cons_self
        have i1 := ix _ h1
        have i2 := ix _ h2
        rw [List.map_cons, List.map_cons, List.map_cons]
        refine lcR_t (e1 := [.va fd, .va (.lst (nsD o)), .no, .va (.tup [.int (q.1 : Int), .int (q.2 : Int)])]) (S1 := S) (S2 := S) rfl rfl ?_ ih
        generalize nsD o = z at *
        simp [ix0, ix1, i1, i2, pqD]
    have lc := lc ps hi
    have hlen : ((ps.map fun q => (ordF o q.1, ordF o q.2)).map pqD).length ≤ 16777216 := by rw [List.length_map, List.length_map]; omega
    have sq : seqR (brD ps) S = .ok (ps.map pqD) S := rfl
    have eb : ∀ qs : List (Nat × Nat), brD qs = .tup (qs.map pqD) := fun _ => rfl
    unfold rnF
    simp only [fD] at *
    rw [eb (ps.map fun q => (ordF o q.1, ordF o q.2))]
    generalize (ps.map fun q => (ordF o q.1, ordF o q.2)).map pqD = y1 at *
    generalize ps.map pqD = y2 at *
    generalize brD ps = y3 at *
    generalize nsD o = z at *
    generalize hte : eTup (aCons (eBin ixD (eVar 1) (eBin ixD (eVar 3) (eC (.int 0)))) (aCons (eBin ixD (eVar 1) (eBin ixD (eVar 3) (eC (.int 1)))) aNil)) = te at *
    simp -implicitDefEqProofs [ix0, ix1, ix2, ix3, s1, s2, iSq, sq, lc, kLcEnd' _ _ hlen]
end
end DL
namespace DL
open PySem L2
theorem oth_perm {n : Nat} {o : List Nat} (hp : o.Perm (List.range n)) {F ys : List Fact} (hy : ys.Perm F) {u : List Nat} : Oth n (ordF o) (fun i => o.idxOf i) F u (ys.map (rnF (ordF o))) (u.map (ordF o)) := by
  have ol : o.length = n := by have := hp.length_eq; simpa using this
  have nd : o.Nodup := hp.nodup_iff.mpr List.nodup_range
  have ge : ∀ a (h : a < n), ordF o a = o[a]'(by omega) := fun a h => by
    unfold ordF
    rw [List.getD_eq_getElem?_getD, List.getElem?_eq_getElem (by omega)]; rfl
  refine ⟨⟨fun a h => ?_, fun a h => ?_⟩, fun f' => ?_, rfl, by rw [List.length_map, hy.length_eq]⟩
  · rw [ge a h]
    exact List.mem_range.mp (hp.mem_iff.mp (List.getElem_mem (by omega)))
  · show o.idxOf (ordF o a) = a
    rw [ge a h]
    exact nd.idxOf_getElem a (by omega)
  · rw [List.mem_map]
    constructor
    · rintro ⟨f, hf, rfl⟩
      exact ⟨f, hy.mem_iff.mp hf, rfl⟩
    · rintro ⟨f, hf, rfl⟩
      exact ⟨f, hy.mem_iff.mpr hf, rfl⟩
section
variable {n b : Nat} {F : List Fact} {S : Sto}
theorem facts_lc (f : Nat) (hn : n < 1000000) {E : Env} (h1 : E[1]? = some (.va (.hdl b))) (h3 : E[3]? = some (.va (.int (n : Int)))) (h10 : 10 < E.length) : ∀ (ds : List Dv) (S : Sto), BagAt S b →
    ∃ (F : List Fact) (S' : Sto), lcR (gN 10) tTrue (eCall (calls (f + 3) .l_fact) (aCons (eVar 1) (aCons (eVar 3) aNil))) E ds S = .ok (F.map fD) S' ∧ BU b S S' ∧ FIn n F ∧ (∀ f ∈ F, Fact.Sm f) ∧ F.length = ds.length
  | [], S, B => ⟨[], S, rfl, BU.refl B, (fun _ h => nomatch h), (fun _ h => nomatch h), rfl⟩
  | d :: ds, S, B => by
    obtain ⟨fa, S1, e1, u1, i1, s1⟩ := fact_ok f b B hn
    obtain ⟨F, S2, e2, u2, i2, s2, l2⟩ := facts_lc f hn h1 h3 h10 ds S1 (u1.bag B)
    have g1 : (E.set 10 (.va d))[1]? = some (.va (.hdl b)) := by rw [List.getElem?_set, if_neg (by omega)]; exact h1
    have g3 : (E.set 10 (.va d))[3]? = some (.va (.int (n : Int))) := by rw [List.getElem?_set, if_neg (by omega)]; exact h3
    refine ⟨fa :: F, S2, ?_, u1.trans u2, fun x hx => ?_, fun x hx => ?_, by simp [l2]⟩
    · rw [List.map_cons]
      refine lcR_t (e1 := E.set 10 (.va d)) (S1 := S) (S2 := S1) rfl rfl ?_ e2
      generalize fD fa = z at *
      generalize E.set 10 (.va d) = E2 at *
      simp [g1, g3, e1]
    · rcases List.mem_cons.mp hx with rfl | hx
      · exact i1
      · exact i2 x hx
    · rcases List.mem_cons.mp hx with rfl | hx
      · exact s1
      · exact s2 x hx
theorem ren_lc (f : Nat) {o : List Nat} (ho : o.length = n) {E : Env} (h6 : E[6]? = some (.va (.lst (nsD o)))) (h11 : 11 < E.length) (S : Sto) : ∀ ys : List Fact, FIn n ys → (∀ f ∈ ys, Fact.Sm f) →
    lcR (gN 11) tTrue (eCall (calls (f + 1) .l_renamed) (aCons (eVar 11) (aCons (eVar 6) aNil))) E (ys.map fD) S = .ok ((ys.map (rnF (ordF o))).map fD) S
  | [], _, _ => rfl
  | fa :: ys, hi, hs => by
    have ih := ren_lc f ho h6 h11 S ys (fun x hx => hi x (List.mem_cons_of_mem _ hx)) (fun x hx => hs x (List.mem_cons_of_mem _ hx))
    have e := renamed_ok f ho (hi fa List.mem_cons_self) (hs fa List.mem_cons_self) S
    have g6 : (E.set 11 (.va (fD fa)))[6]? = some (.va (.lst (nsD o))) := by rw [List.getElem?_set, if_neg (by omega)]; exact h6
    have g11 : (E.set 11 (.va (fD fa)))[11]? = some (.va (fD fa)) := by rw [List.getElem?_set, if_pos rfl, if_pos h11]
    rw [List.map_cons, List.map_cons, List.map_cons]
    refine lcR_t (e1 := E.set 11 (.va (fD fa))) (S1 := S) (S2 := S) rfl rfl ?_ ih
    generalize E.set 11 (.va (fD fa)) = E2 at *
    generalize fD (rnF (ordF o) fa) = z2 at *
    generalize fD fa = z at *
    generalize nsD o = z3 at *
    simp [g6, g11, e]
theorem unl_lc {o : List Nat} (ho : o.length = n) {E : Env} (h6 : E[6]? = some (.va (.lst (nsD o)))) (h12 : 12 < E.length) (S : Sto) : ∀ u : List Nat, (∀ x ∈ u, x < n) → lcR (gN 12) tTrue (eBin ixD (eVar 6) (eVar 12)) E (nsD u) S = .ok (nsD (u.map (ordF o))) S
  | [], _ => rfl
  | a :: u, hu => by
    have ih := unl_lc ho h6 h12 S u fun x hx => hu x (List.mem_cons_of_mem _ hx)
    have i1 := ord_ix S (l := o) (i := a) (by rw [ho]; exact hu a List.mem_cons_self)
    have g6 : (E.set 12 (.va (.int (a : Int))))[6]? = some (.va (.lst (nsD o))) := by rw [List.getElem?_set, if_neg (by omega)]; exact h6
    have g12 : (E.set 12 (.va (.int (a : Int))))[12]? = some (.va (.int (a : Int))) := by rw [List.getElem?_set, if_pos rfl, if_pos h12]
    unfold nsD at ih ⊢
    rw [List.map_cons, List.map_cons, List.map_cons]
    refine lcR_t (e1 := E.set 12 (.va (.int (a : Int)))) (S1 := S) (S2 := S) rfl rfl ?_ ih
    generalize E.set 12 (.va (.int (a : Int))) = E2 at *
    unfold nsD at g6 i1
    generalize (List.map (fun (i : Nat) => Dv.int (i : Int)) o) = z at *
    simp [g6, g12, i1]
theorem rn_in {n : Nat} {s t : Nat → Nat} (r : Ren n s t) {f : Fact} (h : f.In n) : (rnF s f).In n := by
  cases f with
  | join a b => exact ⟨r.lt a h.1, r.lt b h.2⟩
  | row g as v => exact ⟨fun x hx => by obtain ⟨y, hy, rfl⟩ := List.mem_map.mp hx; exact r.lt y (h.1 y hy), r.lt v h.2⟩
  | bar ps =>
    intro q hq
    obtain ⟨p, hp, rfl⟩ := List.mem_map.mp hq
    exact ⟨r.lt _ (h p hp).1, r.lt _ (h p hp).2⟩
theorem rn_sm {s : Nat → Nat} {f : Fact} (h : f.Sm) : (rnF s f).Sm := by
  cases f with
  | join a b => trivial
  | row g as v => show (as.map s).length ≤ 4; rw [List.length_map]; exact h
  | bar ps => show (ps.map _).length ≤ 6; rw [List.length_map]; exact h
theorem go_ok (f : Nat) (B : BagAt S b) (x0 x2 x3 x4 x5 x6 x7 x8 x9 x10 x11 x12 : Sl) : ∃ y3 y4 y5 y6 y7 y8 y9 S', fb_law_l0 (calls (f + 8)) [x0, .va (.hdl b), x2, x3, x4, x5, x6, x7, x8, x9, x10, x11, x12] S = .nx [x0, .va (.hdl b), x2, y3, y4, y5, y6, y7, y8, y9, x10, x11, x12] S' ∧ BagAt S' b := by
  obtain ⟨t, S1, e1, u1, ht⟩ := takeN (f := f + 8) (by omega) B (n := 8) (by omega) (by omega)
  have e1' : calls (f + 8) .l_take S [.hdl b, .int 8] = .ok (.int (t : Int)) S1 := e1
  have B1 := u1.bag B
  generalize hn : 1 + t = n
  have hn1 : n ≤ 150 := by omega
  have h0 : 0 < n := by omega
  have hn2 : (1 : Int) + (t : Int) = (n : Int) := by omega
  obtain ⟨ms, S2, e2, u2, pm⟩ := mixed_d (fun i : Nat => Dv.int (i : Int)) (f := f + 8) (by omega) B1 (List.range n) (by rw [List.length_range]; omega)
  have e2' : calls (f + 8) .l_mixed S1 [.hdl b, .lst (nsD (List.range n))] = .ok (.lst (nsD ms)) S2 := e2
  have B2 := u2.bag B1
  have hmn : (if (3 : Int) < (n : Int) then (3 : Int) else (n : Int)) + 1 = (((if 3 < n then 3 else n) + 1 : Nat) : Int) := by
    by_cases h : 3 < n
    · rw [if_pos (by omega), if_pos h]; omega
    · rw [if_neg (by omega), if_neg h]; omega
  obtain ⟨k, S3, e3, u3, hk⟩ := takeN (f := f + 8) (by omega) B2 (n := (if 3 < n then 3 else n) + 1) (by omega) (by split <;> omega)
  have B3 := u3.bag B2
  let u : List Nat := cutG ms none (some (k : Int))
  have hu0 : cutG (nsD ms) none (some (k : Int)) = nsD u := by unfold nsD; exact cutG_map _ _ _ _
  have hms : ∀ x ∈ ms, x < n := fun x hx => List.mem_range.mp (pm.mem_iff.mp hx)
  have huu : ∀ x ∈ u, x < n := fun x hx => by
    refine hms x ?_
    unfold u cutG at hx
    exact List.mem_of_mem_drop (List.mem_of_mem_take hx)
  have hul : u.length ≤ 150 := by
    have h1 : u.length ≤ ms.length := cutG_len ms none (some (k : Int))
    have h2 := pm.length_eq
    rw [List.length_range] at h2
    omega
  clear_value u
  obtain ⟨w, S4, e4, u4, hw⟩ := takeN (f := f + 8) (by omega) B3 (n := 9) (by omega) (by omega)
  have e4' : calls (f + 8) .l_take S3 [.hdl b, .int 9] = .ok (.int (w : Int)) S4 := e4
  have B4 := u4.bag B3
  obtain ⟨F, S5, e5, u5, hF, hS, hl⟩ := facts_lc (f + 5) (n := n) (b := b) (by omega) (E := [x0, .va (.hdl b), x2, .va (.int (n : Int)), .va (.tup (nsD u)), x5, x6, x7, x8, x9, .no, x11, x12]) rfl rfl (show 10 < 13 by decide) (rngD 0 w) S4 B4
  have hl' : F.length < 10 := by rw [hl]; simp [rngD]; omega
  have B5 := u5.bag B4
  obtain ⟨o, S6, e6, u6, po⟩ := mixed_d (fun i : Nat => Dv.int (i : Int)) (f := f + 8) (by omega) B5 (List.range n) (by rw [List.length_range]; omega)
  have e6' : calls (f + 8) .l_mixed S5 [.hdl b, .lst (nsD (List.range n))] = .ok (.lst (nsD o)) S6 := e6
  have B6 := u6.bag B5
  have ol : o.length = n := by have := po.length_eq; simpa using this
  obtain ⟨S7, e7, B7⟩ := apart_ok (f + 1) hn1 h0 B6 hF hS (by omega) huu hul
  obtain ⟨lo, hi, c, S8, e8, c8, B8, o8, g1, g2⟩ := copied_ok (f + 2) hn1 h0 B7 hF hS (by omega) huu hul
  obtain ⟨ys, S9, e9, u9, py⟩ := mixed_d fD (f := f + 8) (by omega) B8 F (by omega)
  have B9 := u9.bag B8
  have ot := oth_perm po py (u := u)
  have hin : FIn n ys := fun x hx => hF x (py.mem_iff.mp hx)
  have hsm : ∀ x ∈ ys, Fact.Sm x := fun x hx => hS x (py.mem_iff.mp hx)
  have ly := py.length_eq
  obtain ⟨S10, e10, c10, B10, o10, g10⟩ := made_ok (f + 3) (F := ys.map (rnF (ordF o))) (u := u.map (ordF o)) hn1 B9 (fun x hx => by
    obtain ⟨y, hy, rfl⟩ := List.mem_map.mp hx
    exact rn_in ot.ren (hin y hy)) (fun x hx => by
    obtain ⟨y, hy, rfl⟩ := List.mem_map.mp hx
    exact rn_sm (hsm y hy)) (by rw [List.length_map]; omega) (fun x hx => by
    obtain ⟨y, hy, rfl⟩ := List.mem_map.mp hx
    exact ot.ren.lt y (huu y hy)) (by rw [List.length_map]; exact hul)
  have l9 := u9.len
  have nb8 := c8.nb
  have t10 : Two n F u (ys.map (rnF (ordF o))) (u.map (ordF o)) b lo hi c S9.length (S9.length + 4) S9.length S10 := ⟨(c8.bu u9).outP o10 fun i h1 h2 z => by omega, c10, B10, .inl (by omega)⟩
  obtain ⟨S11, e11, t11, o11⟩ := alike_ok (f + 2) hn1 ot ol t10
  have hlenF : (F.map fD).length ≤ 16777216 := by rw [List.length_map]; omega
  have hlenY : ((ys.map (rnF (ordF o))).map fD).length ≤ 16777216 := by rw [List.length_map, List.length_map]; omega
  have hlenU : (nsD (u.map (ordF o))).length ≤ 16777216 := by rw [nsD_len, List.length_map]; omega
  have rk1 : ∀ T, rngK1 (.int (n : Int)) T = .ok (nsD (List.range n)) T := fun T => by
    unfold rngK1
    show (if 0 ≤ (n : Int) ∧ (n : Int) ≤ 16777216 then _ else _) = _
    rw [if_pos (by omega), Int.toNat_natCast, rng_nsD]
  have rk := rngR1_ok S4 (w : Int) ⟨by omega, by omega⟩
  rw [Int.toNat_natCast] at rk
  have cut : cutD S3 (.lst (nsD ms)) none (some (k : Int)) = some (.lst (nsD u), S3) := by
    unfold cutD
    simp only [asL, Option.map_some, hu0]
  have tu : ∀ T l, tupleD T [.lst l] = some (.tup l, T) := fun T l => rfl
  have mn : minD S2 [.int (n : Int), .int 3] = some (.int (if (3 : Int) < (n : Int) then (3 : Int) else (n : Int)), S2) := rfl
  have rl := ren_lc (f + 7) ol (E := [x0, .va (.hdl b), x2, .va (.int (n : Int)), .va (.tup (nsD u)), .va (.lst (F.map fD)), .va (.lst (nsD o)), .va (.hdl c), x8, x9, x10, .no, x12]) rfl (show 11 < 13 by decide) S9 ys hin hsm
  have ul := unl_lc ol (E := [x0, .va (.hdl b), x2, .va (.int (n : Int)), .va (.tup (nsD u)), .va (.lst (F.map fD)), .va (.lst (nsD o)), .va (.hdl c), .va (.lst ((ys.map (rnF (ordF o))).map fD)), x9, x10, x11, .no]) rfl (show 12 < 13 by decide) S9 u huu
  refine ⟨.va (.int (n : Int)), .va (.tup (nsD u)), .va (.lst (F.map fD)), .va (.lst (nsD o)), .va (.hdl c), .va (.lst ((ys.map (rnF (ordF o))).map fD)), .va (.hdl S9.length), S11, ?_, t11.bag⟩
  unfold fb_law_l0
  generalize hM : (if (3 : Int) < (n : Int) then (3 : Int) else (n : Int)) = M at *
  generalize hM1 : (((if 3 < n then 3 else n) + 1 : Nat) : Int) = M1 at *
  generalize eCall (calls (f + 8) .l_fact) (aCons (eVar 1) (aCons (eVar 3) aNil)) = te at *
  generalize eCall (calls (f + 8) .l_renamed) (aCons (eVar 11) (aCons (eVar 6) aNil)) = te2 at *
  generalize eBin ixD (eVar 6) (eVar 12) = te3 at *
  generalize (ys.map (rnF (ordF o))).map fD = y1 at *
  generalize nsD (u.map (ordF o)) = y2 at *
  generalize nsD (List.range n) = y3 at *
  generalize F.map fD = y4 at *
  generalize ys.map fD = y5 at *
  generalize nsD u = y6 at *
  generalize nsD ms = y7 at *
  generalize nsD o = y8 at *
  generalize rngD 0 w = y9 at *
  generalize S9.length = L at *
  have sq1 : ∀ T l, seqR (.lst l) T = .ok l T := fun T l => rfl
  have sq2 : ∀ T l, seqR (.tup l) T = .ok l T := fun T l => rfl
  simp -implicitDefEqProofs [e1', hn2, rk1, e2', mn, hmn, e3, cut, tu, e4', rk, e5, kLcEnd' _ _ hlenF, e6', e7, e8, e9, iSq, sq1, sq2, rl, kLcEnd' _ _ hlenY, ul, kLcEnd' _ _ hlenU, e10, e11]
theorem turns (f b : Nat) : ∀ (ds : List Dv) (x0 x2 x3 x4 x5 x6 x7 x8 x9 x10 x11 x12 : Sl) (S : Sto), BagAt S b → ∃ y2 y3 y4 y5 y6 y7 y8 y9 S', forR (gN 2) (fb_law_l0 (calls (f + 8))) ds [x0, .va (.hdl b), x2, x3, x4, x5, x6, x7, x8, x9, x10, x11, x12] S = .nx [x0, .va (.hdl b), y2, y3, y4, y5, y6, y7, y8, y9, x10, x11, x12] S' ∧ BagAt S' b
  | [], x0, x2, x3, x4, x5, x6, x7, x8, x9, x10, x11, x12, S, B => ⟨x2, x3, x4, x5, x6, x7, x8, x9, S, rfl, B⟩
  | d :: ds, x0, x2, x3, x4, x5, x6, x7, x8, x9, x10, x11, x12, S, B => by
    obtain ⟨y3, y4, y5, y6, y7, y8, y9, S1, e1, b1⟩ := go_ok f B x0 (.va d) x3 x4 x5 x6 x7 x8 x9 x10 x11 x12
    obtain ⟨z2, z3, z4, z5, z6, z7, z8, z9, S2, e2, b2⟩ := turns f b ds x0 (.va d) y3 y4 y5 y6 y7 y8 y9 x10 x11 x12 S1 b1
    exact ⟨z2, z3, z4, z5, z6, z7, z8, z9, S2, by rw [← e2]; exact forR_nx rfl e1, b2⟩
end
theorem law_true (ns : List Int) (h : ns.length ≤ 63) : ∃ S, calls (30 + 1) .law [] [.rol (ns.map .int)] = .ok (.bl true) S := by
  obtain ⟨o, e, ho⟩ := bag_ok 29 [] ns h
  obtain ⟨y2, y3, y4, y5, y6, y7, y8, y9, S', e2, _⟩ := turns 22 0 (rngD 0 2) (.va (.rol (ns.map .int))) .no .no .no .no .no .no .no .no .no .no .no [o] (bag_at ho)
  refine ⟨S', ?_⟩
  rw [ev_law]
  unfold fb_law
  have hr := rngR1_ok [o] 2 (by omega)
  have e' : calls 30 .l_bag [] [.rol (ns.map .int)] = .ok (.hdl 0) [o] := e
  rw [show (2 : Int).toNat = 2 from rfl] at hr
  generalize rngD 0 2 = q at *
  generalize ns.map Dv.int = qn at *
  generalize fb_law_l0 (calls 30) = wl at *
  simp -implicitDefEqProofs [e', hr, e2]
end DL
namespace Row
open PySem L2 DL
structure Tx (K : PySem.W.Frag) (w : World) (mg : Str → Option Value) : Prop where
  f_abs : mg "abs" = none
  f_int : mg "int" = none
  f_len : mg "len" = none
  f_list : mg "list" = none
  f_min : mg "min" = none
  f_range : mg "range" = none
  f_set : mg "set" = none
  f_tuple : mg "tuple" = none
  g_l_bag : mg "_law_bag" = some (.ref (He.ga K "_law_bag"))
  g_l_take : mg "_law_take" = some (.ref (He.ga K "_law_take"))
  g_l_mixed : mg "_law_mixed" = some (.ref (He.ga K "_law_mixed"))
  g_l_tell : mg "_law_tell" = some (.ref (He.ga K "_law_tell"))
  g_l_made : mg "_law_made" = some (.ref (He.ga K "_law_made"))
  g_l_copied : mg "_law_copied" = some (.ref (He.ga K "_law_copied"))
  g_l_one : mg "_law_one" = some (.ref (He.ga K "_law_one"))
  g_l_fact : mg "_law_fact" = some (.ref (He.ga K "_law_fact"))
  g_l_model : mg "_law_model" = some (.ref (He.ga K "_law_model"))
  g_l_truth : mg "_law_truth" = some (.ref (He.ga K "_law_truth"))
  g_l_alike : mg "_law_alike" = some (.ref (He.ga K "_law_alike"))
  g_l_apart : mg "_law_apart" = some (.ref (He.ga K "_law_apart"))
  g_l_renamed : mg "_law_renamed" = some (.ref (He.ga K "_law_renamed"))
  g_law : mg "law" = some (.ref (He.ga K "law"))
  g_Closure : mg "Closure" = some (.ref (He.ga K "Closure"))
  g_Contradiction : mg "Contradiction" = some (.ref (He.ga K "Contradiction"))
  k_Closure : Cls K (He.ga K "Closure")
  mk_Closure : Mk K (He.ga K "Closure") (He.ma K (He.ga K "Closure") "__init__")
  na_Closure_bars : NoAttr K (He.ga K "Closure") "bars"
  na_Closure_known : NoAttr K (He.ga K "Closure") "known"
  na_Closure_parents : NoAttr K (He.ga K "Closure") "parents"
  na_Closure_settled : NoAttr K (He.ga K "Closure") "settled"
  na_Closure_told : NoAttr K (He.ga K "Closure") "told"
  na_Closure_unlike : NoAttr K (He.ga K "Closure") "unlike"
  xt : XcT K xtab
  ext_Contradiction : ExT K (.ref (He.ga K "Contradiction")) ext_Contradiction
  x0_Contradiction : X0F K (He.ga K "Contradiction")
  et_Closure : EmT K (He.dflAt ("Closure", some "__init__") 0 K)
  m_Closure_not_all : Meth K (He.ga K "Closure") "not_all" (He.ma K (He.ga K "Closure") "not_all")
  m_Closure_root : Meth K (He.ga K "Closure") "root" (He.ma K (He.ga K "Closure") "root")
  m_Closure_merge : Meth K (He.ga K "Closure") "merge" (He.ma K (He.ga K "Closure") "merge")
  m_Closure_join : Meth K (He.ga K "Closure") "join" (He.ma K (He.ga K "Closure") "join")
  m_Closure_row : Meth K (He.ga K "Closure") "row" (He.ma K (He.ga K "Closure") "row")
  m_Closure_copied : Meth K (He.ga K "Closure") "copied" (He.ma K (He.ga K "Closure") "copied")
  m_Closure_settle : Meth K (He.ga K "Closure") "settle" (He.ma K (He.ga K "Closure") "settle")
  m_Closure_differs : Meth K (He.ga K "Closure") "differs" (He.ma K (He.ga K "Closure") "differs")
  m_Closure_stands : Meth K (He.ga K "Closure") "stands" (He.ma K (He.ga K "Closure") "stands")
  m_Closure_same : Meth K (He.ga K "Closure") "same" (He.ma K (He.ga K "Closure") "same")
  m_Closure_model : Meth K (He.ga K "Closure") "model" (He.ma K (He.ga K "Closure") "model")
  m_Closure_facts : Meth K (He.ga K "Closure") "facts" (He.ma K (He.ga K "Closure") "facts")
  d_l_bag : ∃ fd, FunD K "_law_bag" "_law_bag" (defArgs st_l_bag) (defBody st_l_bag) (defScope st_l_bag) [] [] (He.ga K "_law_bag") fd
  d_l_take : ∃ fd, FunD K "_law_take" "_law_take" (defArgs st_l_take) (defBody st_l_take) (defScope st_l_take) [] [] (He.ga K "_law_take") fd
  d_l_mixed : ∃ fd, FunD K "_law_mixed" "_law_mixed" (defArgs st_l_mixed) (defBody st_l_mixed) (defScope st_l_mixed) [] [] (He.ga K "_law_mixed") fd
  d_Closure_init : ∃ fd, FunD K "__init__" "Closure.__init__" (defArgs st_Closure_init) (defBody st_Closure_init) (defScope st_Closure_init) ((dd_Closure_init).dvs K) [] (He.ma K (He.ga K "Closure") "__init__") fd
  d_Closure_not_all : ∃ fd, FunD K "not_all" "Closure.not_all" (defArgs st_Closure_not_all) (defBody st_Closure_not_all) (defScope st_Closure_not_all) [] [] (He.ma K (He.ga K "Closure") "not_all") fd
  d_Closure_root : ∃ fd, FunD K "root" "Closure.root" (defArgs st_Closure_root) (defBody st_Closure_root) (defScope st_Closure_root) [] [] (He.ma K (He.ga K "Closure") "root") fd
  d_Closure_merge : ∃ fd, FunD K "merge" "Closure.merge" (defArgs st_Closure_merge) (defBody st_Closure_merge) (defScope st_Closure_merge) [] [] (He.ma K (He.ga K "Closure") "merge") fd
  d_Closure_join : ∃ fd, FunD K "join" "Closure.join" (defArgs st_Closure_join) (defBody st_Closure_join) (defScope st_Closure_join) [] [] (He.ma K (He.ga K "Closure") "join") fd
  d_Closure_row : ∃ fd, FunD K "row" "Closure.row" (defArgs st_Closure_row) (defBody st_Closure_row) (defScope st_Closure_row) [] [] (He.ma K (He.ga K "Closure") "row") fd
  d_l_tell : ∃ fd, FunD K "_law_tell" "_law_tell" (defArgs st_l_tell) (defBody st_l_tell) (defScope st_l_tell) [] [] (He.ga K "_law_tell") fd
  d_l_made : ∃ fd, FunD K "_law_made" "_law_made" (defArgs st_l_made) (defBody st_l_made) (defScope st_l_made) [] [] (He.ga K "_law_made") fd
  d_Closure_copied : ∃ fd, FunD K "copied" "Closure.copied" (defArgs st_Closure_copied) (defBody st_Closure_copied) (defScope st_Closure_copied) [] [] (He.ma K (He.ga K "Closure") "copied") fd
  d_Closure_settle : ∃ fd, FunD K "settle" "Closure.settle" (defArgs st_Closure_settle) (defBody st_Closure_settle) (defScope st_Closure_settle) [] [] (He.ma K (He.ga K "Closure") "settle") fd
  d_Closure_differs : ∃ fd, FunD K "differs" "Closure.differs" (defArgs st_Closure_differs) (defBody st_Closure_differs) (defScope st_Closure_differs) [] [] (He.ma K (He.ga K "Closure") "differs") fd
  d_Closure_stands : ∃ fd, FunD K "stands" "Closure.stands" (defArgs st_Closure_stands) (defBody st_Closure_stands) (defScope st_Closure_stands) [] [] (He.ma K (He.ga K "Closure") "stands") fd
  d_Closure_same : ∃ fd, FunD K "same" "Closure.same" (defArgs st_Closure_same) (defBody st_Closure_same) (defScope st_Closure_same) [] [] (He.ma K (He.ga K "Closure") "same") fd
  d_l_copied : ∃ fd, FunD K "_law_copied" "_law_copied" (defArgs st_l_copied) (defBody st_l_copied) (defScope st_l_copied) [] [] (He.ga K "_law_copied") fd
  d_l_one : ∃ fd, FunD K "_law_one" "_law_one" (defArgs st_l_one) (defBody st_l_one) (defScope st_l_one) [] [] (He.ga K "_law_one") fd
  d_l_fact : ∃ fd, FunD K "_law_fact" "_law_fact" (defArgs st_l_fact) (defBody st_l_fact) (defScope st_l_fact) [] [] (He.ga K "_law_fact") fd
  d_Closure_model : ∃ fd, FunD K "model" "Closure.model" (defArgs st_Closure_model) (defBody st_Closure_model) (defScope st_Closure_model) [] [] (He.ma K (He.ga K "Closure") "model") fd
  d_l_model : ∃ fd, FunD K "_law_model" "_law_model" (defArgs st_l_model) (defBody st_l_model) (defScope st_l_model) [] [] (He.ga K "_law_model") fd
  d_Closure_facts : ∃ fd, FunD K "facts" "Closure.facts" (defArgs st_Closure_facts) (defBody st_Closure_facts) (defScope st_Closure_facts) [] [] (He.ma K (He.ga K "Closure") "facts") fd
  d_l_truth : ∃ fd, FunD K "_law_truth" "_law_truth" (defArgs st_l_truth) (defBody st_l_truth) (defScope st_l_truth) [] [] (He.ga K "_law_truth") fd
  d_l_alike : ∃ fd, FunD K "_law_alike" "_law_alike" (defArgs st_l_alike) (defBody st_l_alike) (defScope st_l_alike) [] [] (He.ga K "_law_alike") fd
  d_l_apart : ∃ fd, FunD K "_law_apart" "_law_apart" (defArgs st_l_apart) (defBody st_l_apart) (defScope st_l_apart) [] [] (He.ga K "_law_apart") fd
  d_l_renamed : ∃ fd, FunD K "_law_renamed" "_law_renamed" (defArgs st_l_renamed) (defBody st_l_renamed) (defScope st_l_renamed) [] [] (He.ga K "_law_renamed") fd
  d_law : ∃ fd, FunD K "law" "law" (defArgs st_law) (defBody st_law) (defScope st_law) [] [] (He.ga K "law") fd
def Fn.ok (P : Program) (w : World) (K : Kw) (mg : Str → Option Value) (base : Heap) (k : Nat) : Fn → DF → Prop
  | .l_bag, g => FD P K.w K mg base k "_law_bag" g
  | .l_take, g => FD P K.w K mg base k "_law_take" g
  | .l_mixed, g => FD P K.w K mg base k "_law_mixed" g
  | .Closure_init, g => FI P K.w K mg base k "Closure" (InB "Closure.__init__" st_Closure_init ["self", "size", "unlike"] (fun K => (dd_Closure_init).dvs K) (fun K => [])) g
  | .Closure_not_all, g => FM P K.w K mg base k "Closure" "not_all" [] g
  | .Closure_root, g => FM P K.w K mg base k "Closure" "root" [] g
  | .Closure_merge, g => FM P K.w K mg base k "Closure" "merge" [] g
  | .Closure_join, g => FM P K.w K mg base k "Closure" "join" [] g
  | .Closure_row, g => FM P K.w K mg base k "Closure" "row" [] g
  | .l_tell, g => FD P K.w K mg base k "_law_tell" g
  | .l_made, g => FD P K.w K mg base k "_law_made" g
  | .Closure_copied, g => FM P K.w K mg base k "Closure" "copied" [] g
  | .Closure_settle, g => FM P K.w K mg base k "Closure" "settle" [] g
  | .Closure_differs, g => FM P K.w K mg base k "Closure" "differs" [] g
  | .Closure_stands, g => FM P K.w K mg base k "Closure" "stands" [] g
  | .Closure_same, g => FM P K.w K mg base k "Closure" "same" [] g
  | .l_copied, g => FD P K.w K mg base k "_law_copied" g
  | .l_one, g => FD P K.w K mg base k "_law_one" g
  | .l_fact, g => FD P K.w K mg base k "_law_fact" g
  | .Closure_model, g => FM P K.w K mg base k "Closure" "model" [] g
  | .l_model, g => FD P K.w K mg base k "_law_model" g
  | .Closure_facts, g => FM P K.w K mg base k "Closure" "facts" [] g
  | .l_truth, g => FD P K.w K mg base k "_law_truth" g
  | .l_alike, g => FD P K.w K mg base k "_law_alike" g
  | .l_apart, g => FD P K.w K mg base k "_law_apart" g
  | .l_renamed, g => FD P K.w K mg base k "_law_renamed" g
  | .law, g => FD P K.w K mg base k "law" g
def OkC (P : Program) (w : World) (K : Kw) (mg : Str → Option Value) (base : Heap) (k : Nat) (c : Fn → DF) : Prop := ∀ f, Fn.ok P w K mg base k f (c f)
theorem okf_l_bag {P : Program} {K : Kw} {mg : Str → Option Value} {base : Heap} {k : Nat} {c : Fn → DF} (ih : OkC P K.w K mg base k c) : FD P K.w K mg base k "_law_bag" (c .l_bag) := ih .l_bag
theorem okf_l_take {P : Program} {K : Kw} {mg : Str → Option Value} {base : Heap} {k : Nat} {c : Fn → DF} (ih : OkC P K.w K mg base k c) : FD P K.w K mg base k "_law_take" (c .l_take) := ih .l_take
theorem okf_l_mixed {P : Program} {K : Kw} {mg : Str → Option Value} {base : Heap} {k : Nat} {c : Fn → DF} (ih : OkC P K.w K mg base k c) : FD P K.w K mg base k "_law_mixed" (c .l_mixed) := ih .l_mixed
theorem okf_Closure_init {P : Program} {K : Kw} {mg : Str → Option Value} {base : Heap} {k : Nat} {c : Fn → DF} (ih : OkC P K.w K mg base k c) : FI P K.w K mg base k "Closure" (InB "Closure.__init__" st_Closure_init ["self", "size", "unlike"] (fun K => (dd_Closure_init).dvs K) (fun K => [])) (c .Closure_init) := ih .Closure_init
theorem okf_Closure_not_all {P : Program} {K : Kw} {mg : Str → Option Value} {base : Heap} {k : Nat} {c : Fn → DF} (ih : OkC P K.w K mg base k c) : FM P K.w K mg base k "Closure" "not_all" [] (c .Closure_not_all) := ih .Closure_not_all
theorem okf_Closure_root {P : Program} {K : Kw} {mg : Str → Option Value} {base : Heap} {k : Nat} {c : Fn → DF} (ih : OkC P K.w K mg base k c) : FM P K.w K mg base k "Closure" "root" [] (c .Closure_root) := ih .Closure_root
theorem okf_Closure_merge {P : Program} {K : Kw} {mg : Str → Option Value} {base : Heap} {k : Nat} {c : Fn → DF} (ih : OkC P K.w K mg base k c) : FM P K.w K mg base k "Closure" "merge" [] (c .Closure_merge) := ih .Closure_merge
theorem okf_Closure_join {P : Program} {K : Kw} {mg : Str → Option Value} {base : Heap} {k : Nat} {c : Fn → DF} (ih : OkC P K.w K mg base k c) : FM P K.w K mg base k "Closure" "join" [] (c .Closure_join) := ih .Closure_join
theorem okf_Closure_row {P : Program} {K : Kw} {mg : Str → Option Value} {base : Heap} {k : Nat} {c : Fn → DF} (ih : OkC P K.w K mg base k c) : FM P K.w K mg base k "Closure" "row" [] (c .Closure_row) := ih .Closure_row
theorem okf_l_tell {P : Program} {K : Kw} {mg : Str → Option Value} {base : Heap} {k : Nat} {c : Fn → DF} (ih : OkC P K.w K mg base k c) : FD P K.w K mg base k "_law_tell" (c .l_tell) := ih .l_tell
theorem okf_l_made {P : Program} {K : Kw} {mg : Str → Option Value} {base : Heap} {k : Nat} {c : Fn → DF} (ih : OkC P K.w K mg base k c) : FD P K.w K mg base k "_law_made" (c .l_made) := ih .l_made
theorem okf_Closure_copied {P : Program} {K : Kw} {mg : Str → Option Value} {base : Heap} {k : Nat} {c : Fn → DF} (ih : OkC P K.w K mg base k c) : FM P K.w K mg base k "Closure" "copied" [] (c .Closure_copied) := ih .Closure_copied
theorem okf_Closure_settle {P : Program} {K : Kw} {mg : Str → Option Value} {base : Heap} {k : Nat} {c : Fn → DF} (ih : OkC P K.w K mg base k c) : FM P K.w K mg base k "Closure" "settle" [] (c .Closure_settle) := ih .Closure_settle
theorem okf_Closure_differs {P : Program} {K : Kw} {mg : Str → Option Value} {base : Heap} {k : Nat} {c : Fn → DF} (ih : OkC P K.w K mg base k c) : FM P K.w K mg base k "Closure" "differs" [] (c .Closure_differs) := ih .Closure_differs
theorem okf_Closure_stands {P : Program} {K : Kw} {mg : Str → Option Value} {base : Heap} {k : Nat} {c : Fn → DF} (ih : OkC P K.w K mg base k c) : FM P K.w K mg base k "Closure" "stands" [] (c .Closure_stands) := ih .Closure_stands
theorem okf_Closure_same {P : Program} {K : Kw} {mg : Str → Option Value} {base : Heap} {k : Nat} {c : Fn → DF} (ih : OkC P K.w K mg base k c) : FM P K.w K mg base k "Closure" "same" [] (c .Closure_same) := ih .Closure_same
theorem okf_l_copied {P : Program} {K : Kw} {mg : Str → Option Value} {base : Heap} {k : Nat} {c : Fn → DF} (ih : OkC P K.w K mg base k c) : FD P K.w K mg base k "_law_copied" (c .l_copied) := ih .l_copied
theorem okf_l_one {P : Program} {K : Kw} {mg : Str → Option Value} {base : Heap} {k : Nat} {c : Fn → DF} (ih : OkC P K.w K mg base k c) : FD P K.w K mg base k "_law_one" (c .l_one) := ih .l_one
theorem okf_l_fact {P : Program} {K : Kw} {mg : Str → Option Value} {base : Heap} {k : Nat} {c : Fn → DF} (ih : OkC P K.w K mg base k c) : FD P K.w K mg base k "_law_fact" (c .l_fact) := ih .l_fact
theorem okf_Closure_model {P : Program} {K : Kw} {mg : Str → Option Value} {base : Heap} {k : Nat} {c : Fn → DF} (ih : OkC P K.w K mg base k c) : FM P K.w K mg base k "Closure" "model" [] (c .Closure_model) := ih .Closure_model
theorem okf_l_model {P : Program} {K : Kw} {mg : Str → Option Value} {base : Heap} {k : Nat} {c : Fn → DF} (ih : OkC P K.w K mg base k c) : FD P K.w K mg base k "_law_model" (c .l_model) := ih .l_model
theorem okf_Closure_facts {P : Program} {K : Kw} {mg : Str → Option Value} {base : Heap} {k : Nat} {c : Fn → DF} (ih : OkC P K.w K mg base k c) : FM P K.w K mg base k "Closure" "facts" [] (c .Closure_facts) := ih .Closure_facts
theorem okf_l_truth {P : Program} {K : Kw} {mg : Str → Option Value} {base : Heap} {k : Nat} {c : Fn → DF} (ih : OkC P K.w K mg base k c) : FD P K.w K mg base k "_law_truth" (c .l_truth) := ih .l_truth
theorem okf_l_alike {P : Program} {K : Kw} {mg : Str → Option Value} {base : Heap} {k : Nat} {c : Fn → DF} (ih : OkC P K.w K mg base k c) : FD P K.w K mg base k "_law_alike" (c .l_alike) := ih .l_alike
theorem okf_l_apart {P : Program} {K : Kw} {mg : Str → Option Value} {base : Heap} {k : Nat} {c : Fn → DF} (ih : OkC P K.w K mg base k c) : FD P K.w K mg base k "_law_apart" (c .l_apart) := ih .l_apart
theorem okf_l_renamed {P : Program} {K : Kw} {mg : Str → Option Value} {base : Heap} {k : Nat} {c : Fn → DF} (ih : OkC P K.w K mg base k c) : FD P K.w K mg base k "_law_renamed" (c .l_renamed) := ih .l_renamed
theorem pb_Closure_2 (K : Kw) : PoB K (InB "Closure.__init__" st_Closure_init ["self", "size", "unlike"] (fun K => (dd_Closure_init).dvs K) (fun K => [])) dl_Closure_2 := fun f fd ps' ⟨e, F⟩ => by
  subst e
  obtain ⟨ds, h1, h2⟩ := L2.FunD.binds1 (ps := ["self", "size", "unlike"]) F 3 1 (by intro z; cases z) rfl (fun T kV doc pm an cdv ct us its h1 h2 => match us, its, h1, h2 with | [_, _, _], [_], _, _ => ⟨_, rfl, rfl⟩)
  exact ⟨ds, _, h2, h1, fun L io H => .nil⟩
section
variable {P : Program} {K : Kw} {mg : Str → Option Value} {base : Heap} {k : Nat} {c : Fn → DF}
theorem fd_l_bag (T : Tx K K.w mg) (hs : SysB base) (ih : OkC P K.w K mg base k c) : FD P K.w K mg base (k + 2) "_law_bag" (g_l_bag c) :=
  fd_mk T.d_l_bag T.g_l_bag sc_l_bag bi_l_bag rfl rfl fun cdv A up s H E hr tk pw =>
    (qss_one (qs_ret (qe_new (qf_lst (qa_cons qe_int (qa_cons qe_int (qa_cons qe_int (qa_cons (qe_frz (qf_lc (own := [("_law_cell", 1)]) rfl sc_l_bag.nd (qi_seq (qe_cut (qx (qe_var 0)) qo_none (qo_some qe_int))) (blkOk_by (own := [("_law_cell", 1)]) (N := ["_law_script", "_law_cell"]) (sc := defScope st_l_bag) (by decide +kernel)) (fun _ _ _ _ _ => (qg_name sc_l_bag.nd 1)) (fun _ _ _ _ _ => qts_nil) (fun _ _ _ _ _ => (qe_callB call_abs cas_abs T.f_abs (by decide +kernel) (qxs_cons (qx (qe_var 1)) qxs_nil))))) qa_nil))))))))
theorem fd_l_take (T : Tx K K.w mg) (hs : SysB base) (ih : OkC P K.w K mg base k c) : FD P K.w K mg base (k + 2) "_law_take" (g_l_take c) :=
  fd_mk T.d_l_take T.g_l_take sc_l_take bi_l_take rfl rfl fun cdv A up s H E hr tk pw =>
    (qss_cons (qs_if (qt_eq hr.r (qx (qe_ix (qx (qe_var 0)) (qx qe_int))) (qx qe_int)) (qss_cons (qs_asg sc_l_take.nd 2 qe_int) (qss_cons (qs_if (qt_lt (qx (qe_ix (qx (qe_var 0)) (qx qe_int))) (qx (qe_callB call_len cas_len T.f_len (by decide +kernel) (qxs_cons (qx (qe_ix (qx (qe_var 0)) (qx qe_int))) qxs_nil)))) (qss_one (qs_asg sc_l_take.nd 2 (qe_ix (qx (qe_ix (qx (qe_var 0)) (qx qe_int))) (qx (qe_ix (qx (qe_var 0)) (qx qe_int)))))) qss_nil) (qss_cons (qs_augI ip_add ips_add (qe_var 0) qe_int qe_int) (qss_cons (qs_if (qt_ge (qx (qe_var 2)) (qx qe_int)) (qss_one (qs_setI (qe_var 0) qe_int (qe_var 2))) qss_nil) (qss_cons (qs_asg sc_l_take.nd 3 (qe_add (qx (qe_add (qx (qe_mul (qx (qe_ix (qx (qe_var 0)) (qx qe_int))) (qx qe_int))) (qx (qe_mod (qx (qe_callTy call_int2 cas_int2 T.f_int (by decide +kernel) (qxs_cons (qx (qe_var 2)) qxs_nil))) (qx qe_int))))) (qx (qe_mul (qx qe_int) (qx (qe_ix (qx (qe_var 0)) (qx qe_int))))))) (qss_one (qs_setI (qe_var 0) qe_int (qe_mod (qx (qe_callTy call_int2 cas_int2 T.f_int (by decide +kernel) (qxs_cons (qx (qe_var 3)) qxs_nil))) (qx qe_int))))))))) qss_nil) (qss_cons (qs_if (qt_gt (qx (qe_ix (qx (qe_var 0)) (qx qe_int))) (qx qe_int)) (qss_cons (qs_asg sc_l_take.nd 4 (qe_mod (qx (qe_callTy call_int2 cas_int2 T.f_int (by decide +kernel) (qxs_cons (qx (qe_ix (qx (qe_var 0)) (qx qe_int))) qxs_nil))) (qx (qe_var 1)))) (qss_cons (qs_setI (qe_var 0) qe_int (qe_fdiv (qx (qe_callTy call_int2 cas_int2 T.f_int (by decide +kernel) (qxs_cons (qx (qe_ix (qx (qe_var 0)) (qx qe_int))) qxs_nil))) (qx (qe_var 1)))) (qss_one (qs_ret (qe_var 4))))) qss_nil) (qss_cons (qs_asg sc_l_take.nd 5 (qe_mod (qx (qe_callTy call_int2 cas_int2 T.f_int (by decide +kernel) (qxs_cons (qx (qe_mul (qx (qe_add (qx (qe_ix (qx (qe_var 0)) (qx qe_int))) (qx qe_int))) (qx qe_int))) qxs_nil))) (qx qe_int))) (qss_cons (qs_asg sc_l_take.nd 6 (qe_mod (qx (qe_callTy call_int2 cas_int2 T.f_int (by decide +kernel) (qxs_cons (qx (qe_mul (qx (qe_mod (qx (qe_callTy call_int2 cas_int2 T.f_int (by decide +kernel) (qxs_cons (qx (qe_mul (qx (qe_var 5)) (qx (qe_var 5)))) qxs_nil))) (qx qe_int))) (qx qe_int))) qxs_nil))) (qx qe_int))) (qss_one (qs_ret (qe_mod (qx (qe_callTy call_int2 cas_int2 T.f_int (by decide +kernel) (qxs_cons (qx (qe_fdiv (qx (qe_var 6)) (qx qe_int))) qxs_nil))) (qx (qe_var 1)))))))))
theorem fd_l_mixed (T : Tx K K.w mg) (hs : SysB base) (ih : OkC P K.w K mg base k c) : FD P K.w K mg base (k + 2) "_law_mixed" (g_l_mixed c) :=
  fd_mk T.d_l_mixed T.g_l_mixed sc_l_mixed bi_l_mixed rfl rfl fun cdv A up s H E hr tk pw =>
    (qss_cons (qs_ownN sc_l_mixed.nd 2 (qn_f (qf_lst qa_nil))) (qss_cons (qs_for pw rfl (qi_seq (qe_var 1)) (qg_name sc_l_mixed.nd 3) (qss_one (qs_ownM 2 PySem.F.slot_list_insert PySem.F.type_list_insert mt_insert owns_ins (qa_cons (qe_call (okf_l_take ih) hr tk (qa_cons (qe_var 0) (qa_cons (qe_add (qx (qe_callB call_len cas_len T.f_len (by decide +kernel) (qxs_cons (qx_any 2) qxs_nil))) (qx qe_int)) qa_nil))) (qa_cons (qe_var 3) qa_nil))))) (qss_fz 2 (qss_one (qs_ret (qe_var 2))))))
theorem fd_Closure_init (T : Tx K K.w mg) (hs : SysB base) (ih : OkC P K.w K mg base k c) : FI P K.w K mg base (k + 2) "Closure" (InB "Closure.__init__" st_Closure_init ["self", "size", "unlike"] (fun K => (dd_Closure_init).dvs K) (fun K => [])) (g_Closure_init c) :=
  fi_mk T.d_Closure_init T.g_Closure T.mk_Closure sc_Closure_init rfl rfl fun cdv A up s H E hr tk pw =>
    (qss_cons (qs_fld ⟨T.k_Closure, T.na_Closure_parents⟩ (qe_var 0) (qe_new (qf_rng T.f_list T.f_range (qe_var 1)))) (qss_cons (qs_fld ⟨T.k_Closure, T.na_Closure_unlike⟩ (qe_var 0) (qe_callTy call_list_of cas_list T.f_list (by decide +kernel) (qxs_cons (qx (qe_var 2)) qxs_nil))) (qss_cons (qs_fld ⟨T.k_Closure, T.na_Closure_known⟩ (qe_var 0) (qe_new (qf_lst qa_nil))) (qss_cons (qs_fld ⟨T.k_Closure, T.na_Closure_bars⟩ (qe_var 0) (qe_new (qf_lst qa_nil))) (qss_cons (qs_fld ⟨T.k_Closure, T.na_Closure_told⟩ (qe_var 0) qe_int) (qss_one (qs_fld ⟨T.k_Closure, T.na_Closure_settled⟩ (qe_var 0) qe_bl)))))))
theorem fd_Closure_not_all (T : Tx K K.w mg) (hs : SysB base) (ih : OkC P K.w K mg base k c) : FM P K.w K mg base (k + 2) "Closure" "not_all" [] (g_Closure_not_all c) :=
  fm_mk T.d_Closure_not_all T.k_Closure T.m_Closure_not_all sc_Closure_not_all bi_Closure_not_all rfl rfl fun cdv A up s H E hr tk pw =>
    (qss_cons (qs_augF ⟨T.k_Closure, T.na_Closure_told⟩ in_add ips_add (qe_var 0) qe_int) (qss_one (qs_expr (qe_hdlM PySem.F.slot_list_append PySem.F.type_list_append mt_append owns_app (qe_fld ⟨T.k_Closure, T.na_Closure_bars⟩ (qe_var 0)) (qa_cons (qe_lend (qe_callTy call_tuple_of cas_tuple T.f_tuple (by decide +kernel) (qxs_cons (qx (qe_frz (qf_lc (own := [("one", 2), ("other", 3)]) rfl sc_Closure_not_all.nd (qi_seq (qe_var 1)) (blkOk_by (own := [("one", 2), ("other", 3)]) (N := ["self", "pairs", "one", "other"]) (sc := defScope st_Closure_not_all) (by decide +kernel)) (fun _ _ _ _ _ => (qg_tl rfl (qgs_cons (qg_name sc_Closure_not_all.nd 2) (qgs_cons (qg_name sc_Closure_not_all.nd 3) qgs_nil)))) (fun _ _ _ _ _ => qts_nil) (fun _ _ _ _ _ => (qe_tup (qa_cons (qe_var 2) (qa_cons (qe_var 3) qa_nil))))))) qxs_nil))) qa_nil)))))
theorem fd_Closure_root (T : Tx K K.w mg) (hs : SysB base) (ih : OkC P K.w K mg base k c) : FM P K.w K mg base (k + 2) "Closure" "root" [] (g_Closure_root c) :=
  fm_mk T.d_Closure_root T.k_Closure T.m_Closure_root sc_Closure_root bi_Closure_root rfl rfl fun cdv A up s H E hr tk pw =>
    (qss_cons (qs_while 200 pw (qt_ne hr.r (qx (qe_ix (qx (qe_fld ⟨T.k_Closure, T.na_Closure_parents⟩ (qe_var 0))) (qx (qe_var 1)))) (qx (qe_var 1))) (qss_one (qs_asg sc_Closure_root.nd 1 (qe_ix (qx (qe_fld ⟨T.k_Closure, T.na_Closure_parents⟩ (qe_var 0))) (qx (qe_var 1)))))) (qss_one (qs_ret (qe_var 1))))
theorem fd_Closure_merge (T : Tx K K.w mg) (hs : SysB base) (ih : OkC P K.w K mg base k c) : FM P K.w K mg base (k + 2) "Closure" "merge" [] (g_Closure_merge c) :=
  fm_mk T.d_Closure_merge T.k_Closure T.m_Closure_merge sc_Closure_merge bi_Closure_merge rfl rfl fun cdv A up s H E hr tk pw =>
    (qss_cons (qs_par rfl sc_Closure_merge.nd 3 4 (qa_cons (qe_meth (okf_Closure_root ih) hr tk (qe_var 0) (qa_cons (qe_var 1) qa_nil)) (qa_cons (qe_meth (okf_Closure_root ih) hr tk (qe_var 0) (qa_cons (qe_var 2) qa_nil)) qa_nil))) (qss_cons (qs_if (qt_eq hr.r (qx (qe_var 3)) (qx (qe_var 4))) (qss_one qs_retN) qss_nil) (qss_cons (qs_if (qt_lt (qx (qe_var 4)) (qx (qe_var 3))) (qss_one (qs_par rfl sc_Closure_merge.nd 3 4 (qa_cons (qe_var 4) (qa_cons (qe_var 3) qa_nil)))) qss_nil) (qss_cons (qs_setI (qe_fld ⟨T.k_Closure, T.na_Closure_parents⟩ (qe_var 0)) (qe_var 4) (qe_var 3)) (qss_one (qs_fld ⟨T.k_Closure, T.na_Closure_settled⟩ (qe_var 0) qe_bl))))))
theorem fd_Closure_join (T : Tx K K.w mg) (hs : SysB base) (ih : OkC P K.w K mg base k c) : FM P K.w K mg base (k + 2) "Closure" "join" [] (g_Closure_join c) :=
  fm_mk T.d_Closure_join T.k_Closure T.m_Closure_join sc_Closure_join bi_Closure_join rfl rfl fun cdv A up s H E hr tk pw =>
    (qss_cons (qs_augF ⟨T.k_Closure, T.na_Closure_told⟩ in_add ips_add (qe_var 0) qe_int) (qss_one (qs_expr (qe_meth (okf_Closure_merge ih) hr tk (qe_var 0) (qa_cons (qe_var 1) (qa_cons (qe_var 2) qa_nil))))))
theorem fd_Closure_row (T : Tx K K.w mg) (hs : SysB base) (ih : OkC P K.w K mg base k c) : FM P K.w K mg base (k + 2) "Closure" "row" [] (g_Closure_row c) :=
  fm_mk T.d_Closure_row T.k_Closure T.m_Closure_row sc_Closure_row bi_Closure_row rfl rfl fun cdv A up s H E hr tk pw =>
    (qss_cons (qs_augF ⟨T.k_Closure, T.na_Closure_told⟩ in_add ips_add (qe_var 0) qe_int) (qss_cons (qs_expr (qe_hdlM PySem.F.slot_list_append PySem.F.type_list_append mt_append owns_app (qe_fld ⟨T.k_Closure, T.na_Closure_known⟩ (qe_var 0)) (qa_cons (qe_tup (qa_cons (qe_var 1) (qa_cons (qe_callTy call_tuple_of cas_tuple T.f_tuple (by decide +kernel) (qxs_cons (qx (qe_var 2)) qxs_nil)) (qa_cons (qe_var 3) qa_nil)))) qa_nil))) (qss_one (qs_fld ⟨T.k_Closure, T.na_Closure_settled⟩ (qe_var 0) qe_bl))))
theorem fd_l_tell (T : Tx K K.w mg) (hs : SysB base) (ih : OkC P K.w K mg base k c) : FD P K.w K mg base (k + 2) "_law_tell" (g_l_tell c) :=
  fd_mk T.d_l_tell T.g_l_tell sc_l_tell bi_l_tell rfl rfl fun cdv A up s H E hr tk pw =>
    (qss_cons (qs_asg sc_l_tell.nd 3 (qe_eq hr.r (qx (qe_call (okf_l_take ih) hr tk (qa_cons (qe_var 0) (qa_cons qe_int qa_nil)))) (qx qe_int))) (qss_cons (qs_if (qt_eq hr.r (qx (qe_ix (qx (qe_var 2)) (qx qe_int))) (qx qe_str)) (qss_one (qs_ret (qe_meth (okf_Closure_join ih) hr tk (qe_var 1) (qa_cons (qe_ix (qx (qe_var 2)) (qx qe_int)) (qa_cons (qe_ix (qx (qe_var 2)) (qx qe_int)) qa_nil))))) qss_nil) (qss_cons (qs_if (qt_eq hr.r (qx (qe_ix (qx (qe_var 2)) (qx qe_int))) (qx qe_str)) (qss_cons (qs_asg sc_l_tell.nd 4 (qe_new (qf_list T.f_list (qxs_cons (qx (qe_ix (qx (qe_var 2)) (qx qe_int))) qxs_nil)))) (qss_cons (qs_asg sc_l_tell.nd 5 (qe_meth (okf_Closure_row ih) hr tk (qe_var 1) (qa_cons (qe_ix (qx (qe_var 2)) (qx qe_int)) (qa_cons (qe_if (qt_tru (qx (qe_var 3))) (qe_var 4) (qe_ix (qx (qe_var 2)) (qx qe_int))) (qa_cons (qe_ix (qx (qe_var 2)) (qx qe_int)) qa_nil))))) (qss_cons (qs_expr (qe_hdlM PySem.F.slot_list_append PySem.F.type_list_append mt_append owns_app (qe_var 4) (qa_cons qe_int qa_nil))) (qss_cons (qs_cutP (qe_var 4) qo_none (qo_some qe_int) (qe_frz (qf_lst (qa_cons qe_int qa_nil)))) (qss_one (qs_ret (qe_var 5))))))) qss_nil) (qss_cons (qs_asgLcH sc_l_tell.nd 6 ([("_law_pair", 7)]) rfl sc_l_tell.nd (qi_seq (qe_ix (qx (qe_var 2)) (qx qe_int))) (blkOk_by (own := [("_law_pair", 7)]) (N := ["_law_bag_here", "_law_closure", "_law_fact_here", "_law_listed", "_law_things", "_law_told", "_law_pairs", "_law_pair"]) (sc := defScope st_l_tell) (by decide +kernel)) (fun _ _ _ _ _ => (qg_name sc_l_tell.nd 7)) (fun _ _ _ _ _ => qts_nil) (fun _ _ _ _ _ => (qe_new (qf_list T.f_list (qxs_cons (qx (qe_var 7)) qxs_nil))))) (qss_cons (qs_asg sc_l_tell.nd 5 (qe_meth (okf_Closure_not_all ih) hr tk (qe_var 1) (qa_cons (qe_if (qt_tru (qx (qe_var 3))) (qe_var 6) (qe_ix (qx (qe_var 2)) (qx qe_int))) qa_nil))) (qss_cons (qs_forH pw rfl (qe_var 6) (qg_name sc_l_tell.nd 7) (qss_one (qs_setI (qe_var 7) qe_int (qe_ix (qx (qe_var 7)) (qx qe_int))))) (qss_cons (qs_cutP (qe_var 6) qo_none (qo_some qe_int) (qe_frz (qf_lst qa_nil))) (qss_one (qs_ret (qe_var 5))))))))))
theorem fd_l_made (T : Tx K K.w mg) (hs : SysB base) (ih : OkC P K.w K mg base k c) : FD P K.w K mg base (k + 2) "_law_made" (g_l_made c) :=
  fd_mk T.d_l_made T.g_l_made sc_l_made bi_l_made rfl rfl fun cdv A up s H E hr tk pw =>
    (qss_cons (qs_asg sc_l_made.nd 4 (qe_mkH (FI.fk (okf_Closure_init ih) (pb_Closure_2 _)) hr tk (qa_cons (qe_var 1) (qa_cons (qe_var 2) qa_nil)))) (qss_cons (qs_for pw rfl (qi_seq (qe_var 3)) (qg_name sc_l_made.nd 5) (qss_one (qs_expr (qe_call (okf_l_tell ih) hr tk (qa_cons (qe_var 0) (qa_cons (qe_var 4) (qa_cons (qe_var 5) qa_nil))))))) (qss_one (qs_ret (qe_var 4)))))
theorem fd_Closure_copied (T : Tx K K.w mg) (hs : SysB base) (ih : OkC P K.w K mg base k c) : FM P K.w K mg base (k + 2) "Closure" "copied" [] (g_Closure_copied c) :=
  fm_mk T.d_Closure_copied T.k_Closure T.m_Closure_copied sc_Closure_copied bi_Closure_copied rfl rfl fun cdv A up s H E hr tk pw =>
    (qss_cons (qs_asg sc_Closure_copied.nd 1 (qe_mkH (FI.fk (okf_Closure_init ih) (pb_Closure_2 _)) hr tk (qa_cons qe_int (qa_cons (qe_fld ⟨T.k_Closure, T.na_Closure_unlike⟩ (qe_var 0)) qa_nil)))) (qss_cons (qs_fld ⟨T.k_Closure, T.na_Closure_parents⟩ (qe_var 1) (qe_new (qf_list T.f_list (qxs_cons (qx (qe_fld ⟨T.k_Closure, T.na_Closure_parents⟩ (qe_var 0))) qxs_nil)))) (qss_cons (qs_fld ⟨T.k_Closure, T.na_Closure_known⟩ (qe_var 1) (qe_new (qf_list T.f_list (qxs_cons (qx (qe_fld ⟨T.k_Closure, T.na_Closure_known⟩ (qe_var 0))) qxs_nil)))) (qss_cons (qs_fld ⟨T.k_Closure, T.na_Closure_bars⟩ (qe_var 1) (qe_new (qf_list T.f_list (qxs_cons (qx (qe_fld ⟨T.k_Closure, T.na_Closure_bars⟩ (qe_var 0))) qxs_nil)))) (qss_cons (qs_fld ⟨T.k_Closure, T.na_Closure_told⟩ (qe_var 1) (qe_fld ⟨T.k_Closure, T.na_Closure_told⟩ (qe_var 0))) (qss_cons (qs_fld ⟨T.k_Closure, T.na_Closure_settled⟩ (qe_var 1) (qe_fld ⟨T.k_Closure, T.na_Closure_settled⟩ (qe_var 0))) (qss_one (qs_ret (qe_var 1)))))))))
theorem fd_Closure_settle (T : Tx K K.w mg) (hs : SysB base) (ih : OkC P K.w K mg base k c) : FM P K.w K mg base (k + 2) "Closure" "settle" [] (g_Closure_settle c) :=
  fm_mk T.d_Closure_settle T.k_Closure T.m_Closure_settle sc_Closure_settle bi_Closure_settle rfl rfl fun cdv A up s H E hr tk pw =>
    (qss_one (qs_while 200 pw (qt_not (qt_tru (qx (qe_fld ⟨T.k_Closure, T.na_Closure_settled⟩ (qe_var 0))))) (qss_cons (qs_fld ⟨T.k_Closure, T.na_Closure_settled⟩ (qe_var 0) qe_bl) (qss_cons (qs_asg sc_Closure_settle.nd 1 qe_newN) (qss_one (qs_forH pw rfl (qe_fld ⟨T.k_Closure, T.na_Closure_known⟩ (qe_var 0)) (qg_tup rfl (qgs_cons (qg_name sc_Closure_settle.nd 2) (qgs_cons (qg_name sc_Closure_settle.nd 3) (qgs_cons (qg_name sc_Closure_settle.nd 4) qgs_nil)))) (qss_cons (qs_asg sc_Closure_settle.nd 5 (qe_tup (qa_cons (qe_var 2) (qa_cons (qe_callTy call_tuple_of cas_tuple T.f_tuple (by decide +kernel) (qxs_cons (qx (qe_frz (qf_lc (own := [("thing", 6)]) rfl sc_Closure_settle.nd (qi_seq (qe_var 3)) (blkOk_by (own := [("thing", 6)]) (N := ["self", "values", "sign", "arguments", "value", "key", "thing"]) (sc := defScope st_Closure_settle) (by decide +kernel)) (fun _ _ _ _ _ => (qg_name sc_Closure_settle.nd 6)) (fun _ _ _ _ _ => qts_nil) (fun _ _ _ _ _ => (qe_meth (okf_Closure_root ih) hr takesW0 (qe_var 0) (qa_cons (qe_var 6) qa_nil)))))) qxs_nil)) qa_nil)))) (qss_one (qs_expr (qe_meth (okf_Closure_merge ih) hr tk (qe_var 0) (qa_cons (qe_ndef hr.r (qe_var 1) (qe_var 5) (qe_var 4)) (qa_cons (qe_var 4) qa_nil))))))))))))
theorem fd_Closure_differs (T : Tx K K.w mg) (hs : SysB base) (ih : OkC P K.w K mg base k c) : FM P K.w K mg base (k + 2) "Closure" "differs" [] (g_Closure_differs c) :=
  fm_mk T.d_Closure_differs T.k_Closure T.m_Closure_differs sc_Closure_differs bi_Closure_differs rfl rfl fun cdv A up s H E hr tk pw =>
    (qss_cons (qs_expr (qe_meth0 (okf_Closure_settle ih) hr tk (qe_var 0))) (qss_cons (qs_for pw rfl (qi_seq (qe_var 1)) (qg_tup rfl (qgs_cons (qg_name sc_Closure_differs.nd 2) (qgs_cons (qg_name sc_Closure_differs.nd 3) qgs_nil))) (qss_one (qs_if (qt_ne hr.r (qx (qe_meth (okf_Closure_root ih) hr tk (qe_var 0) (qa_cons (qe_var 2) qa_nil))) (qx (qe_meth (okf_Closure_root ih) hr tk (qe_var 0) (qa_cons (qe_var 3) qa_nil)))) (qss_one (qs_ret qe_bl)) qss_nil))) (qss_one (qs_ret qe_bl))))
theorem fd_Closure_stands (T : Tx K K.w mg) (hs : SysB base) (ih : OkC P K.w K mg base k c) : FM P K.w K mg base (k + 2) "Closure" "stands" [] (g_Closure_stands c) :=
  fm_mk T.d_Closure_stands T.k_Closure T.m_Closure_stands sc_Closure_stands bi_Closure_stands rfl rfl fun cdv A up s H E hr tk pw =>
    (qss_cons (qs_expr (qe_meth0 (okf_Closure_settle ih) hr tk (qe_var 0))) (qss_cons (qs_asgLc sc_Closure_stands.nd 1 ([("thing", 3)]) rfl sc_Closure_stands.nd (qi_seq (qe_fld ⟨T.k_Closure, T.na_Closure_unlike⟩ (qe_var 0))) (blkOk_by (own := [("thing", 3)]) (N := ["self", "roots", "pairs", "thing"]) (sc := defScope st_Closure_stands) (by decide +kernel)) (fun _ _ _ _ _ => (qg_name sc_Closure_stands.nd 3)) (fun _ _ _ _ _ => qts_nil) (fun _ _ _ _ _ => (qe_meth (okf_Closure_root ih) hr takesW0 (qe_var 0) (qa_cons (qe_var 3) qa_nil)))) (qss_cons (qs_if (qt_lt (qx (qe_lenSetI T.f_len T.f_set (qxs_cons (qx (qe_var 1)) qxs_nil))) (qx (qe_callB call_len cas_len T.f_len (by decide +kernel) (qxs_cons (qx (qe_var 1)) qxs_nil)))) (qss_one (qs_ret qe_bl)) qss_nil) (qss_cons (qs_forH pw rfl (qe_fld ⟨T.k_Closure, T.na_Closure_bars⟩ (qe_var 0)) (qg_name sc_Closure_stands.nd 2) (qss_one (qs_if (qt_not (qt_tru (qx (qe_meth (okf_Closure_differs ih) hr tk (qe_var 0) (qa_cons (qe_var 2) qa_nil))))) (qss_one (qs_ret qe_bl)) qss_nil))) (qss_one (qs_ret qe_bl))))))
theorem fd_Closure_same (T : Tx K K.w mg) (hs : SysB base) (ih : OkC P K.w K mg base k c) : FM P K.w K mg base (k + 2) "Closure" "same" [] (g_Closure_same c) :=
  fm_mk T.d_Closure_same T.k_Closure T.m_Closure_same sc_Closure_same bi_Closure_same rfl rfl fun cdv A up s H E hr tk pw =>
    (qss_one (qs_ret (qe_or (qe_not (qe_meth0 (okf_Closure_stands ih) hr tk (qe_var 0))) (qe_one (qe_eq hr.r (qx (qe_meth (okf_Closure_root ih) hr tk (qe_var 0) (qa_cons (qe_var 1) qa_nil))) (qx (qe_meth (okf_Closure_root ih) hr tk (qe_var 0) (qa_cons (qe_var 2) qa_nil))))))))
theorem fd_l_copied (T : Tx K K.w mg) (hs : SysB base) (ih : OkC P K.w K mg base k c) : FD P K.w K mg base (k + 2) "_law_copied" (g_l_copied c) :=
  fd_mk T.d_l_copied T.g_l_copied sc_l_copied bi_l_copied rfl rfl fun cdv A up s H E hr tk pw =>
    (qss_cons (qs_asg sc_l_copied.nd 4 (qe_call (okf_l_made ih) hr tk (qa_cons (qe_var 0) (qa_cons (qe_var 1) (qa_cons (qe_var 2) (qa_cons (qe_var 3) qa_nil)))))) (qss_cons (qs_if (qt_eq hr.r (qx (qe_call (okf_l_take ih) hr tk (qa_cons (qe_var 0) (qa_cons qe_int qa_nil)))) (qx qe_int)) (qss_one (qs_asg sc_l_copied.nd 4 (qe_meth0 (okf_Closure_copied ih) hr tk (qe_var 4)))) qss_nil) (qss_cons (qs_if (qt_eq hr.r (qx (qe_call (okf_l_take ih) hr tk (qa_cons (qe_var 0) (qa_cons qe_int qa_nil)))) (qx qe_int)) (qss_cons (qs_expr (qe_meth (okf_Closure_same ih) hr tk (qe_var 4) (qa_cons qe_int (qa_cons (qe_sub (qx (qe_var 1)) (qx qe_int)) qa_nil)))) (qss_one (qs_expr (qe_meth0 (okf_Closure_stands ih) hr tk (qe_var 4))))) qss_nil) (qss_one (qs_ret (qe_var 4))))))
theorem fd_l_one (T : Tx K K.w mg) (hs : SysB base) (ih : OkC P K.w K mg base k c) : FD P K.w K mg base (k + 2) "_law_one" (g_l_one c) :=
  fd_mk T.d_l_one T.g_l_one sc_l_one bi_l_one rfl rfl fun cdv A up s H E hr tk pw =>
    (qss_one (qs_ret (qe_ix (qx (qe_var 1)) (qx (qe_call (okf_l_take ih) hr tk (qa_cons (qe_var 0) (qa_cons (qe_callB call_len cas_len T.f_len (by decide +kernel) (qxs_cons (qx (qe_var 1)) qxs_nil)) qa_nil)))))))
theorem fd_l_fact (T : Tx K K.w mg) (hs : SysB base) (ih : OkC P K.w K mg base k c) : FD P K.w K mg base (k + 2) "_law_fact" (g_l_fact c) :=
  fd_mk T.d_l_fact T.g_l_fact sc_l_fact bi_l_fact rfl rfl fun cdv A up s H E hr tk pw =>
    (qss_cons (qs_asg sc_l_fact.nd 2 (qe_call (okf_l_take ih) hr tk (qa_cons (qe_var 0) (qa_cons qe_int qa_nil)))) (qss_cons (qs_if (qt_w (qw_or (qt_eq hr.r (qx (qe_var 1)) (qx qe_int)) (qw_or1 (qt_eq hr.r (qx (qe_var 2)) (qx qe_int))))) (qss_cons (qs_asg sc_l_fact.nd 3 (qe_mul (qx (qe_ix (qx (qe_frz (qf_lst (qa_cons qe_int (qa_cons qe_int (qa_cons qe_int (qa_cons qe_int (qa_cons qe_int (qa_cons qe_int (qa_cons qe_int qa_nil)))))))))) (qx (qe_call (okf_l_take ih) hr tk (qa_cons (qe_var 0) (qa_cons qe_int qa_nil)))))) (qx (qe_callTy call_int2 cas_int2 T.f_int (by decide +kernel) (qxs_cons (qx (qe_gt (qx (qe_var 1)) (qx qe_int))) qxs_nil))))) (qss_one (qs_ret (qe_tup (qa_cons qe_str (qa_cons (qe_callTy call_tuple_of cas_tuple T.f_tuple (by decide +kernel) (qxs_cons (qx (qe_frz (qf_lc (own := [("_law_k", 6)]) rfl sc_l_fact.nd (qi_range1 T.f_range (qa_cons (qe_var 3) qa_nil)) (blkOk_by (own := [("_law_k", 6)]) (N := ["_law_bag_here", "_law_size", "_law_way", "_law_some", "_law_sign", "_law_told", "_law_k"]) (sc := defScope st_l_fact) (by decide +kernel)) (fun _ _ _ _ _ => (qg_name sc_l_fact.nd 6)) (fun _ _ _ _ _ => qts_nil) (fun _ _ _ _ _ => (qe_tup (qa_cons (qe_call (okf_l_take ih) hr takesW0 (qa_cons (qe_var 0) (qa_cons (qe_var 1) qa_nil))) (qa_cons (qe_call (okf_l_take ih) hr takesW0 (qa_cons (qe_var 0) (qa_cons (qe_var 1) qa_nil))) qa_nil))))))) qxs_nil)) qa_nil)))))) qss_nil) (qss_cons (qs_if (qt_eq hr.r (qx (qe_var 2)) (qx qe_int)) (qss_one (qs_ret (qe_tup (qa_cons qe_str (qa_cons (qe_call (okf_l_take ih) hr tk (qa_cons (qe_var 0) (qa_cons (qe_var 1) qa_nil))) (qa_cons (qe_call (okf_l_take ih) hr tk (qa_cons (qe_var 0) (qa_cons (qe_var 1) qa_nil))) qa_nil)))))) qss_nil) (qss_cons (qs_asg sc_l_fact.nd 4 (qe_call (okf_l_one ih) hr tk (qa_cons (qe_var 0) (qa_cons (qe_frz (qf_lst (qa_cons qe_str (qa_cons qe_str (qa_cons qe_str (qa_cons qe_str (qa_cons qe_str (qa_cons qe_str qa_nil)))))))) qa_nil)))) (qss_cons (qs_asg sc_l_fact.nd 5 (qe_callTy call_tuple_of cas_tuple T.f_tuple (by decide +kernel) (qxs_cons (qx (qe_frz (qf_lc (own := [("_law_k", 6)]) rfl sc_l_fact.nd (qi_range1 T.f_range (qa_cons (qe_ix (qx (qe_frz (qf_lst (qa_cons qe_int (qa_cons qe_int (qa_cons qe_int (qa_cons qe_int (qa_cons qe_int (qa_cons qe_int qa_nil))))))))) (qx (qe_call (okf_l_take ih) hr tk (qa_cons (qe_var 0) (qa_cons qe_int qa_nil))))) qa_nil)) (blkOk_by (own := [("_law_k", 6)]) (N := ["_law_bag_here", "_law_size", "_law_way", "_law_some", "_law_sign", "_law_told", "_law_k"]) (sc := defScope st_l_fact) (by decide +kernel)) (fun _ _ _ _ _ => (qg_name sc_l_fact.nd 6)) (fun _ _ _ _ _ => qts_nil) (fun _ _ _ _ _ => (qe_call (okf_l_take ih) hr takesW0 (qa_cons (qe_var 0) (qa_cons (qe_var 1) qa_nil))))))) qxs_nil))) (qss_one (qs_ret (qe_tup (qa_cons qe_str (qa_cons (qe_var 4) (qa_cons (qe_var 5) (qa_cons (qe_call (okf_l_take ih) hr tk (qa_cons (qe_var 0) (qa_cons (qe_var 1) qa_nil))) qa_nil))))))))))))
theorem fd_Closure_model (T : Tx K K.w mg) (hs : SysB base) (ih : OkC P K.w K mg base k c) : FM P K.w K mg base (k + 2) "Closure" "model" [] (g_Closure_model c) :=
  fm_mk T.d_Closure_model T.k_Closure T.m_Closure_model sc_Closure_model bi_Closure_model rfl rfl fun cdv A up s H E hr tk pw =>
    (qss_cons (qs_if (qt_not (qt_tru (qx (qe_meth0 (okf_Closure_stands ih) hr tk (qe_var 0))))) (qss_one (qs_raise0 T.x0_Contradiction T.g_Contradiction tk rfl)) qss_nil) (qss_cons (qs_par rfl sc_Closure_model.nd 1 2 (qa_cons (qe_hdlN (qn_d qd_nil)) (qa_cons (qe_new (qf_lst qa_nil)) qa_nil))) (qss_cons (qs_for pw rfl (qi_range1 T.f_range (qa_cons (qe_callB call_len cas_len T.f_len (by decide +kernel) (qxs_cons (qx (qe_fld ⟨T.k_Closure, T.na_Closure_parents⟩ (qe_var 0))) qxs_nil)) qa_nil)) (qg_name sc_Closure_model.nd 3) (qss_one (qs_expr (qe_hdlM PySem.F.slot_list_append PySem.F.type_list_append mt_append owns_app (qe_var 2) (qa_cons (qe_kdef (qe_var 1) (qe_meth (okf_Closure_root ih) hr tk (qe_var 0) (qa_cons (qe_var 3) qa_nil)) (qe_callB call_lenD cas_lenK T.f_len (by decide +kernel) (qxs_cons (qx (qe_var 1)) qxs_nil))) qa_nil))))) (qss_one (qs_ret (qe_var 2))))))
theorem fd_l_model (T : Tx K K.w mg) (hs : SysB base) (ih : OkC P K.w K mg base k c) : FD P K.w K mg base (k + 2) "_law_model" (g_l_model c) :=
  fd_mk T.d_l_model T.g_l_model sc_l_model bi_l_model rfl rfl fun cdv A up s H E hr tk pw =>
    (qss_one (qs_tryO ⟨rfl, by decide, .inl T.g_Contradiction⟩ T.ext_Contradiction tk (qss_one (qs_ret (qe_tup (qa_cons qe_str (qa_cons (qe_var 1) qa_nil))))) (fun W pn xe tk pw => (qss_one (qs_asg sc_l_model.nd 1 (qe_meth0 (okf_Closure_model ih) hr tk (qe_var 0))))) (fun ad oe pn => (qe_tup (qa_cons qe_str qa_nil)))))
theorem fd_Closure_facts (T : Tx K K.w mg) (hs : SysB base) (ih : OkC P K.w K mg base k c) : FM P K.w K mg base (k + 2) "Closure" "facts" [] (g_Closure_facts c) :=
  fm_mk T.d_Closure_facts T.k_Closure T.m_Closure_facts sc_Closure_facts bi_Closure_facts rfl rfl fun cdv A up s H E hr tk pw =>
    (qss_one (qs_ret (qe_fld ⟨T.k_Closure, T.na_Closure_told⟩ (qe_var 0))))
theorem fd_l_truth (T : Tx K K.w mg) (hs : SysB base) (ih : OkC P K.w K mg base k c) : FD P K.w K mg base (k + 2) "_law_truth" (g_l_truth c) :=
  fd_mk T.d_l_truth T.g_l_truth sc_l_truth bi_l_truth rfl rfl fun cdv A up s H E hr tk pw =>
    (qss_one (qs_ret (qe_and (qe_or (qe_is (qx (qe_var 0)) (qx qe_bl)) (qe_one (qe_is (qx (qe_var 0)) (qx qe_bl)))) (qe_one (qe_eq hr.r (qx (qe_var 0)) (qx (qe_var 1)))))))
theorem fd_l_alike (T : Tx K K.w mg) (hs : SysB base) (ih : OkC P K.w K mg base k c) : FD P K.w K mg base (k + 2) "_law_alike" (g_l_alike c) :=
  fd_mk T.d_l_alike T.g_l_alike sc_l_alike bi_l_alike rfl rfl fun cdv A up s H E hr tk pw =>
    (qss_cons (qs_asg sc_l_alike.nd 4 (qe_eq hr.r (qx (qe_call (okf_l_take ih) hr tk (qa_cons (qe_var 0) (qa_cons qe_int qa_nil)))) (qx qe_int))) (qss_cons (qs_if (qt_w (qw_and (qt_tru (qx (qe_var 4))) (qw_and1 (qt_ne hr.r (qx (qe_meth0 (okf_Closure_stands ih) hr tk (qe_var 1))) (qx (qe_meth0 (okf_Closure_stands ih) hr tk (qe_var 2))))))) (qss_one (qs_ret qe_bl)) qss_nil) (qss_cons (qs_for pw rfl (qi_range1 T.f_range (qa_cons (qe_callB call_len cas_len T.f_len (by decide +kernel) (qxs_cons (qx (qe_var 3)) qxs_nil)) qa_nil)) (qg_name sc_l_alike.nd 5) (qss_one (qs_for pw rfl (qi_range1 T.f_range (qa_cons (qe_add (qx (qe_var 5)) (qx qe_int)) qa_nil)) (qg_name sc_l_alike.nd 6) (qss_cons (qs_asg sc_l_alike.nd 7 (qe_meth (okf_Closure_same ih) hr tk (qe_var 2) (qa_cons (qe_ix (qx (qe_var 3)) (qx (qe_var 6))) (qa_cons (qe_ix (qx (qe_var 3)) (qx (qe_var 5))) qa_nil)))) (qss_one (qs_if (qt_not (qt_tru (qx (qe_call (okf_l_truth ih) hr tk (qa_cons (qe_meth (okf_Closure_same ih) hr tk (qe_var 1) (qa_cons (qe_var 5) (qa_cons (qe_var 6) qa_nil))) (qa_cons (qe_var 7) qa_nil)))))) (qss_one (qs_ret qe_bl)) qss_nil)))))) (qss_one (qs_ret (qe_and (qe_eq hr.r (qx (qe_meth0 (okf_Closure_stands ih) hr tk (qe_var 1))) (qx (qe_meth0 (okf_Closure_stands ih) hr tk (qe_var 2)))) (qe_one (qe_eq hr.r (qx (qe_meth0 (okf_Closure_facts ih) hr tk (qe_var 1))) (qx (qe_meth0 (okf_Closure_facts ih) hr tk (qe_var 2)))))))))))
theorem fd_l_apart (T : Tx K K.w mg) (hs : SysB base) (ih : OkC P K.w K mg base k c) : FD P K.w K mg base (k + 2) "_law_apart" (g_l_apart c) :=
  fd_mk T.d_l_apart T.g_l_apart sc_l_apart bi_l_apart rfl rfl fun cdv A up s H E hr tk pw =>
    (qss_cons (qs_asg sc_l_apart.nd 4 (qe_call (okf_l_copied ih) hr tk (qa_cons (qe_var 0) (qa_cons (qe_var 1) (qa_cons (qe_var 2) (qa_cons (qe_var 3) qa_nil)))))) (qss_cons (qs_parB3 rfl sc_l_apart.nd 5 6 7 (qb_va (qe_meth0 (okf_Closure_copied ih) hr tk (qe_var 4)) (qb_own (qn_f (qf_list T.f_list (qxs_cons (qx (qe_var 3)) qxs_nil))) (qb_own (qn_f (qf_list T.f_list (qxs_cons (qx (qe_var 3)) qxs_nil))) qb_nil)))) (qss_cons (qs_for pw rfl (qi_range1 T.f_range (qa_cons (qe_call (okf_l_take ih) hr tk (qa_cons (qe_var 0) (qa_cons qe_int qa_nil))) qa_nil)) (qg_name sc_l_apart.nd 8) (qss_cons (qs_asg sc_l_apart.nd 9 (qe_call (okf_l_fact ih) hr tk (qa_cons (qe_var 0) (qa_cons (qe_var 1) qa_nil)))) (qss_cons (qs_if (qt_eq hr.r (qx (qe_call (okf_l_take ih) hr tk (qa_cons (qe_var 0) (qa_cons qe_int qa_nil)))) (qx qe_int)) (qss_cons (qs_expr (qe_call (okf_l_tell ih) hr tk (qa_cons (qe_var 0) (qa_cons (qe_var 4) (qa_cons (qe_var 9) qa_nil))))) (qss_one (qs_ownM 6 PySem.F.slot_list_append PySem.F.type_list_append mt_append owns_app (qa_cons (qe_var 9) qa_nil)))) (qss_cons (qs_expr (qe_call (okf_l_tell ih) hr tk (qa_cons (qe_var 0) (qa_cons (qe_var 5) (qa_cons (qe_var 9) qa_nil))))) (qss_one (qs_ownM 7 PySem.F.slot_list_append PySem.F.type_list_append mt_append owns_app (qa_cons (qe_var 9) qa_nil))))) (qss_one (qs_if (qt_eq hr.r (qx (qe_call (okf_l_take ih) hr tk (qa_cons (qe_var 0) (qa_cons qe_int qa_nil)))) (qx qe_int)) (qss_cons (qs_expr (qe_meth0 (okf_Closure_stands ih) hr tk (qe_var 4))) (qss_one (qs_expr (qe_meth (okf_Closure_same ih) hr tk (qe_var 5) (qa_cons qe_int (qa_cons (qe_sub (qx (qe_var 1)) (qx qe_int)) qa_nil)))))) qss_nil))))) (qss_cons (qs_asg sc_l_apart.nd 10 (qe_frz (qf_rng T.f_list T.f_range (qe_var 1)))) (qss_fz 7 (qss_fz 6 (qss_cons (qs_par rfl sc_l_apart.nd 11 12 (qa_cons (qe_call (okf_l_made ih) hr tk (qa_cons (qe_var 0) (qa_cons (qe_var 1) (qa_cons (qe_var 2) (qa_cons (qe_var 6) qa_nil))))) (qa_cons (qe_call (okf_l_made ih) hr tk (qa_cons (qe_var 0) (qa_cons (qe_var 1) (qa_cons (qe_var 2) (qa_cons (qe_var 7) qa_nil))))) qa_nil))) (qss_cons (qs_if (qt_w (qw_and (qt_eq hr.r (qx (qe_call (okf_l_take ih) hr tk (qa_cons (qe_var 0) (qa_cons qe_int qa_nil)))) (qx qe_int)) (qw_and1 (qt_ne hr.r (qx (qe_call (okf_l_model ih) hr tk (qa_cons (qe_var 4) qa_nil))) (qx (qe_call (okf_l_model ih) hr tk (qa_cons (qe_var 11) qa_nil))))))) (qss_one (qs_ret qe_bl)) qss_nil) (qss_cons (qs_if (qt_w (qw_or (qt_not (qt_tru (qx (qe_call (okf_l_alike ih) hr tk (qa_cons (qe_var 0) (qa_cons (qe_var 5) (qa_cons (qe_var 12) (qa_cons (qe_var 10) qa_nil)))))))) (qw_or1 (qt_not (qt_tru (qx (qe_call (okf_l_alike ih) hr tk (qa_cons (qe_var 0) (qa_cons (qe_var 4) (qa_cons (qe_var 11) (qa_cons (qe_var 10) qa_nil))))))))))) (qss_one (qs_ret qe_bl)) qss_nil) (qss_cons (qs_if (qt_ne hr.r (qx (qe_call (okf_l_model ih) hr tk (qa_cons (qe_meth0 (okf_Closure_copied ih) hr tk (qe_var 5)) qa_nil))) (qx (qe_call (okf_l_model ih) hr tk (qa_cons (qe_var 12) qa_nil)))) (qss_one (qs_ret qe_bl)) qss_nil) (qss_one (qs_ret (qe_eq hr.r (qx (qe_call (okf_l_model ih) hr tk (qa_cons (qe_var 4) qa_nil))) (qx (qe_call (okf_l_model ih) hr tk (qa_cons (qe_var 11) qa_nil))))))))))))))))
theorem fd_l_renamed (T : Tx K K.w mg) (hs : SysB base) (ih : OkC P K.w K mg base k c) : FD P K.w K mg base (k + 2) "_law_renamed" (g_l_renamed c) :=
  fd_mk T.d_l_renamed T.g_l_renamed sc_l_renamed bi_l_renamed rfl rfl fun cdv A up s H E hr tk pw =>
    (qss_cons (qs_if (qt_eq hr.r (qx (qe_ix (qx (qe_var 0)) (qx qe_int))) (qx qe_str)) (qss_one (qs_ret (qe_tup (qa_cons qe_str (qa_cons (qe_ix (qx (qe_var 1)) (qx (qe_ix (qx (qe_var 0)) (qx qe_int)))) (qa_cons (qe_ix (qx (qe_var 1)) (qx (qe_ix (qx (qe_var 0)) (qx qe_int)))) qa_nil)))))) qss_nil) (qss_cons (qs_if (qt_eq hr.r (qx (qe_ix (qx (qe_var 0)) (qx qe_int))) (qx qe_str)) (qss_one (qs_ret (qe_tup (qa_cons qe_str (qa_cons (qe_ix (qx (qe_var 0)) (qx qe_int)) (qa_cons (qe_callTy call_tuple_of cas_tuple T.f_tuple (by decide +kernel) (qxs_cons (qx (qe_frz (qf_lc (own := [("_law_thing", 2)]) rfl sc_l_renamed.nd (qi_seq (qe_ix (qx (qe_var 0)) (qx qe_int))) (blkOk_by (own := [("_law_thing", 2)]) (N := ["_law_fact_here", "_law_order", "_law_thing", "_law_pair"]) (sc := defScope st_l_renamed) (by decide +kernel)) (fun _ _ _ _ _ => (qg_name sc_l_renamed.nd 2)) (fun _ _ _ _ _ => qts_nil) (fun _ _ _ _ _ => (qe_ix (qx (qe_var 1)) (qx (qe_var 2))))))) qxs_nil)) (qa_cons (qe_ix (qx (qe_var 1)) (qx (qe_ix (qx (qe_var 0)) (qx qe_int)))) qa_nil))))))) qss_nil) (qss_one (qs_ret (qe_tup (qa_cons qe_str (qa_cons (qe_callTy call_tuple_of cas_tuple T.f_tuple (by decide +kernel) (qxs_cons (qx (qe_frz (qf_lc (own := [("_law_pair", 3)]) rfl sc_l_renamed.nd (qi_seq (qe_ix (qx (qe_var 0)) (qx qe_int))) (blkOk_by (own := [("_law_pair", 3)]) (N := ["_law_fact_here", "_law_order", "_law_thing", "_law_pair"]) (sc := defScope st_l_renamed) (by decide +kernel)) (fun _ _ _ _ _ => (qg_name sc_l_renamed.nd 3)) (fun _ _ _ _ _ => qts_nil) (fun _ _ _ _ _ => (qe_tup (qa_cons (qe_ix (qx (qe_var 1)) (qx (qe_ix (qx (qe_var 3)) (qx qe_int)))) (qa_cons (qe_ix (qx (qe_var 1)) (qx (qe_ix (qx (qe_var 3)) (qx qe_int)))) qa_nil))))))) qxs_nil)) qa_nil)))))))
theorem fd_law (T : Tx K K.w mg) (hs : SysB base) (ih : OkC P K.w K mg base k c) : FD P K.w K mg base (k + 2) "law" (g_law c) :=
  fd_mk T.d_law T.g_law sc_law bi_law rfl rfl fun cdv A up s H E hr tk pw =>
    (qss_cons (qs_asg sc_law.nd 1 (qe_call (okf_l_bag ih) hr tk (qa_cons (qe_var 0) qa_nil))) (qss_cons (qs_for pw rfl (qi_range1 T.f_range (qa_cons qe_int qa_nil)) (qg_name sc_law.nd 2) (qss_cons (qs_asg sc_law.nd 3 (qe_add (qx qe_int) (qx (qe_call (okf_l_take ih) hr tk (qa_cons (qe_var 1) (qa_cons qe_int qa_nil)))))) (qss_cons (qs_asg sc_law.nd 4 (qe_callTy call_tuple_of cas_tuple T.f_tuple (by decide +kernel) (qxs_cons (qx (qe_cut (qx (qe_call (okf_l_mixed ih) hr tk (qa_cons (qe_var 1) (qa_cons (qe_frz (qf_rng T.f_list T.f_range (qe_var 3))) qa_nil)))) qo_none (qo_some (qe_call (okf_l_take ih) hr tk (qa_cons (qe_var 1) (qa_cons (qe_add (qx (qe_callB (call_min2 rfl) cas_min T.f_min (by decide +kernel) (qxs_cons (qx (qe_var 3)) (qxs_cons (qx qe_int) qxs_nil)))) (qx qe_int)) qa_nil)))))) qxs_nil))) (qss_cons (qs_asgLc sc_law.nd 5 ([("_law_k", 10)]) rfl sc_law.nd (qi_range1 T.f_range (qa_cons (qe_call (okf_l_take ih) hr tk (qa_cons (qe_var 1) (qa_cons qe_int qa_nil))) qa_nil)) (blkOk_by (own := [("_law_k", 10)]) (N := ["_law_script", "_law_bag_here", "_law_go", "_law_size", "_law_unlike", "_law_facts", "_law_order", "_law_one_here", "_law_turned", "_law_other", "_law_k", "_law_fact_here", "_law_thing"]) (sc := defScope st_law) (by decide +kernel)) (fun _ _ _ _ _ => (qg_name sc_law.nd 10)) (fun _ _ _ _ _ => qts_nil) (fun _ _ _ _ _ => (qe_call (okf_l_fact ih) hr takesW0 (qa_cons (qe_var 1) (qa_cons (qe_var 3) qa_nil))))) (qss_cons (qs_asg sc_law.nd 6 (qe_call (okf_l_mixed ih) hr tk (qa_cons (qe_var 1) (qa_cons (qe_frz (qf_rng T.f_list T.f_range (qe_var 3))) qa_nil)))) (qss_cons (qs_if (qt_not (qt_tru (qx (qe_call (okf_l_apart ih) hr tk (qa_cons (qe_var 1) (qa_cons (qe_var 3) (qa_cons (qe_var 4) (qa_cons (qe_var 5) qa_nil)))))))) (qss_one (qs_ret qe_bl)) qss_nil) (qss_cons (qs_asg sc_law.nd 7 (qe_call (okf_l_copied ih) hr tk (qa_cons (qe_var 1) (qa_cons (qe_var 3) (qa_cons (qe_var 4) (qa_cons (qe_var 5) qa_nil)))))) (qss_cons (qs_asgLc sc_law.nd 8 ([("_law_fact_here", 11)]) rfl sc_law.nd (qi_seq (qe_call (okf_l_mixed ih) hr tk (qa_cons (qe_var 1) (qa_cons (qe_var 5) qa_nil)))) (blkOk_by (own := [("_law_fact_here", 11)]) (N := ["_law_script", "_law_bag_here", "_law_go", "_law_size", "_law_unlike", "_law_facts", "_law_order", "_law_one_here", "_law_turned", "_law_other", "_law_k", "_law_fact_here", "_law_thing"]) (sc := defScope st_law) (by decide +kernel)) (fun _ _ _ _ _ => (qg_name sc_law.nd 11)) (fun _ _ _ _ _ => qts_nil) (fun _ _ _ _ _ => (qe_call (okf_l_renamed ih) hr takesW0 (qa_cons (qe_var 11) (qa_cons (qe_var 6) qa_nil))))) (qss_cons (qs_asg sc_law.nd 9 (qe_call (okf_l_made ih) hr tk (qa_cons (qe_var 1) (qa_cons (qe_var 3) (qa_cons (qe_callTy call_tuple_of cas_tuple T.f_tuple (by decide +kernel) (qxs_cons (qx (qe_frz (qf_lc (own := [("_law_thing", 12)]) rfl sc_law.nd (qi_seq (qe_var 4)) (blkOk_by (own := [("_law_thing", 12)]) (N := ["_law_script", "_law_bag_here", "_law_go", "_law_size", "_law_unlike", "_law_facts", "_law_order", "_law_one_here", "_law_turned", "_law_other", "_law_k", "_law_fact_here", "_law_thing"]) (sc := defScope st_law) (by decide +kernel)) (fun _ _ _ _ _ => (qg_name sc_law.nd 12)) (fun _ _ _ _ _ => qts_nil) (fun _ _ _ _ _ => (qe_ix (qx (qe_var 6)) (qx (qe_var 12))))))) qxs_nil)) (qa_cons (qe_var 8) qa_nil)))))) (qss_one (qs_if (qt_not (qt_tru (qx (qe_call (okf_l_alike ih) hr tk (qa_cons (qe_var 1) (qa_cons (qe_var 7) (qa_cons (qe_var 9) (qa_cons (qe_var 6) qa_nil)))))))) (qss_one (qs_ret qe_bl)) qss_nil))))))))))) (qss_one (qs_ret qe_bl))))
end
section
variable {P : Program} {K : Kw} {mg : Str → Option Value} {base : Heap}
theorem all_ok (T : Tx K K.w mg) (hs : SysB base) : ∀ n, OkC P K.w K mg base (2 * n) (calls n)
  | 0 => fun f => match f with
    | .l_bag => fd_no T.d_l_bag T.g_l_bag bi_l_bag
    | .l_take => fd_no T.d_l_take T.g_l_take bi_l_take
    | .l_mixed => fd_no T.d_l_mixed T.g_l_mixed bi_l_mixed
    | .Closure_init => fi_no T.d_Closure_init T.g_Closure T.mk_Closure
    | .Closure_not_all => fm_no T.d_Closure_not_all T.k_Closure T.m_Closure_not_all bi_Closure_not_all
    | .Closure_root => fm_no T.d_Closure_root T.k_Closure T.m_Closure_root bi_Closure_root
    | .Closure_merge => fm_no T.d_Closure_merge T.k_Closure T.m_Closure_merge bi_Closure_merge
    | .Closure_join => fm_no T.d_Closure_join T.k_Closure T.m_Closure_join bi_Closure_join
    | .Closure_row => fm_no T.d_Closure_row T.k_Closure T.m_Closure_row bi_Closure_row
    | .l_tell => fd_no T.d_l_tell T.g_l_tell bi_l_tell
    | .l_made => fd_no T.d_l_made T.g_l_made bi_l_made
    | .Closure_copied => fm_no T.d_Closure_copied T.k_Closure T.m_Closure_copied bi_Closure_copied
    | .Closure_settle => fm_no T.d_Closure_settle T.k_Closure T.m_Closure_settle bi_Closure_settle
    | .Closure_differs => fm_no T.d_Closure_differs T.k_Closure T.m_Closure_differs bi_Closure_differs
    | .Closure_stands => fm_no T.d_Closure_stands T.k_Closure T.m_Closure_stands bi_Closure_stands
    | .Closure_same => fm_no T.d_Closure_same T.k_Closure T.m_Closure_same bi_Closure_same
    | .l_copied => fd_no T.d_l_copied T.g_l_copied bi_l_copied
    | .l_one => fd_no T.d_l_one T.g_l_one bi_l_one
    | .l_fact => fd_no T.d_l_fact T.g_l_fact bi_l_fact
    | .Closure_model => fm_no T.d_Closure_model T.k_Closure T.m_Closure_model bi_Closure_model
    | .l_model => fd_no T.d_l_model T.g_l_model bi_l_model
    | .Closure_facts => fm_no T.d_Closure_facts T.k_Closure T.m_Closure_facts bi_Closure_facts
    | .l_truth => fd_no T.d_l_truth T.g_l_truth bi_l_truth
    | .l_alike => fd_no T.d_l_alike T.g_l_alike bi_l_alike
    | .l_apart => fd_no T.d_l_apart T.g_l_apart bi_l_apart
    | .l_renamed => fd_no T.d_l_renamed T.g_l_renamed bi_l_renamed
    | .law => fd_no T.d_law T.g_law bi_law
  | n + 1 => fun f => match f with
    | .l_bag => fd_l_bag T hs (all_ok T hs n)
    | .l_take => fd_l_take T hs (all_ok T hs n)
    | .l_mixed => fd_l_mixed T hs (all_ok T hs n)
    | .Closure_init => fd_Closure_init T hs (all_ok T hs n)
    | .Closure_not_all => fd_Closure_not_all T hs (all_ok T hs n)
    | .Closure_root => fd_Closure_root T hs (all_ok T hs n)
    | .Closure_merge => fd_Closure_merge T hs (all_ok T hs n)
    | .Closure_join => fd_Closure_join T hs (all_ok T hs n)
    | .Closure_row => fd_Closure_row T hs (all_ok T hs n)
    | .l_tell => fd_l_tell T hs (all_ok T hs n)
    | .l_made => fd_l_made T hs (all_ok T hs n)
    | .Closure_copied => fd_Closure_copied T hs (all_ok T hs n)
    | .Closure_settle => fd_Closure_settle T hs (all_ok T hs n)
    | .Closure_differs => fd_Closure_differs T hs (all_ok T hs n)
    | .Closure_stands => fd_Closure_stands T hs (all_ok T hs n)
    | .Closure_same => fd_Closure_same T hs (all_ok T hs n)
    | .l_copied => fd_l_copied T hs (all_ok T hs n)
    | .l_one => fd_l_one T hs (all_ok T hs n)
    | .l_fact => fd_l_fact T hs (all_ok T hs n)
    | .Closure_model => fd_Closure_model T hs (all_ok T hs n)
    | .l_model => fd_l_model T hs (all_ok T hs n)
    | .Closure_facts => fd_Closure_facts T hs (all_ok T hs n)
    | .l_truth => fd_l_truth T hs (all_ok T hs n)
    | .l_alike => fd_l_alike T hs (all_ok T hs n)
    | .l_apart => fd_l_apart T hs (all_ok T hs n)
    | .l_renamed => fd_l_renamed T hs (all_ok T hs n)
    | .law => fd_law T hs (all_ok T hs n)
theorem ok_law {fd : FuncData} (T : Tx K K.w mg) (hs : SysB base) (F : FunD K "law" "law" (defArgs st_law) (defBody st_law) (defScope st_law) [] [] (He.ga K "law") fd) : FnG P K.w K mg base (2 * (30 + 1)) (He.ga K "law") fd ["_law_script"] (spD K (calls (30 + 1) .law)) :=
  have ih : OkC P K.w K mg base (2 * 30) (calls 30) := all_ok T hs 30
  fn_mk (k := 2 * 30 + 1) (fb := fb_law (calls 30)) F sc_law fun cdv A up s H E hr tk pw =>
    (qss_cons (qs_asg sc_law.nd 1 (qe_call (okf_l_bag ih) hr tk (qa_cons (qe_var 0) qa_nil))) (qss_cons (qs_for pw rfl (qi_range1 T.f_range (qa_cons qe_int qa_nil)) (qg_name sc_law.nd 2) (qss_cons (qs_asg sc_law.nd 3 (qe_add (qx qe_int) (qx (qe_call (okf_l_take ih) hr tk (qa_cons (qe_var 1) (qa_cons qe_int qa_nil)))))) (qss_cons (qs_asg sc_law.nd 4 (qe_callTy call_tuple_of cas_tuple T.f_tuple (by decide +kernel) (qxs_cons (qx (qe_cut (qx (qe_call (okf_l_mixed ih) hr tk (qa_cons (qe_var 1) (qa_cons (qe_frz (qf_rng T.f_list T.f_range (qe_var 3))) qa_nil)))) qo_none (qo_some (qe_call (okf_l_take ih) hr tk (qa_cons (qe_var 1) (qa_cons (qe_add (qx (qe_callB (call_min2 rfl) cas_min T.f_min (by decide +kernel) (qxs_cons (qx (qe_var 3)) (qxs_cons (qx qe_int) qxs_nil)))) (qx qe_int)) qa_nil)))))) qxs_nil))) (qss_cons (qs_asgLc sc_law.nd 5 ([("_law_k", 10)]) rfl sc_law.nd (qi_range1 T.f_range (qa_cons (qe_call (okf_l_take ih) hr tk (qa_cons (qe_var 1) (qa_cons qe_int qa_nil))) qa_nil)) (blkOk_by (own := [("_law_k", 10)]) (N := ["_law_script", "_law_bag_here", "_law_go", "_law_size", "_law_unlike", "_law_facts", "_law_order", "_law_one_here", "_law_turned", "_law_other", "_law_k", "_law_fact_here", "_law_thing"]) (sc := defScope st_law) (by decide +kernel)) (fun _ _ _ _ _ => (qg_name sc_law.nd 10)) (fun _ _ _ _ _ => qts_nil) (fun _ _ _ _ _ => (qe_call (okf_l_fact ih) hr takesW0 (qa_cons (qe_var 1) (qa_cons (qe_var 3) qa_nil))))) (qss_cons (qs_asg sc_law.nd 6 (qe_call (okf_l_mixed ih) hr tk (qa_cons (qe_var 1) (qa_cons (qe_frz (qf_rng T.f_list T.f_range (qe_var 3))) qa_nil)))) (qss_cons (qs_if (qt_not (qt_tru (qx (qe_call (okf_l_apart ih) hr tk (qa_cons (qe_var 1) (qa_cons (qe_var 3) (qa_cons (qe_var 4) (qa_cons (qe_var 5) qa_nil)))))))) (qss_one (qs_ret qe_bl)) qss_nil) (qss_cons (qs_asg sc_law.nd 7 (qe_call (okf_l_copied ih) hr tk (qa_cons (qe_var 1) (qa_cons (qe_var 3) (qa_cons (qe_var 4) (qa_cons (qe_var 5) qa_nil)))))) (qss_cons (qs_asgLc sc_law.nd 8 ([("_law_fact_here", 11)]) rfl sc_law.nd (qi_seq (qe_call (okf_l_mixed ih) hr tk (qa_cons (qe_var 1) (qa_cons (qe_var 5) qa_nil)))) (blkOk_by (own := [("_law_fact_here", 11)]) (N := ["_law_script", "_law_bag_here", "_law_go", "_law_size", "_law_unlike", "_law_facts", "_law_order", "_law_one_here", "_law_turned", "_law_other", "_law_k", "_law_fact_here", "_law_thing"]) (sc := defScope st_law) (by decide +kernel)) (fun _ _ _ _ _ => (qg_name sc_law.nd 11)) (fun _ _ _ _ _ => qts_nil) (fun _ _ _ _ _ => (qe_call (okf_l_renamed ih) hr takesW0 (qa_cons (qe_var 11) (qa_cons (qe_var 6) qa_nil))))) (qss_cons (qs_asg sc_law.nd 9 (qe_call (okf_l_made ih) hr tk (qa_cons (qe_var 1) (qa_cons (qe_var 3) (qa_cons (qe_callTy call_tuple_of cas_tuple T.f_tuple (by decide +kernel) (qxs_cons (qx (qe_frz (qf_lc (own := [("_law_thing", 12)]) rfl sc_law.nd (qi_seq (qe_var 4)) (blkOk_by (own := [("_law_thing", 12)]) (N := ["_law_script", "_law_bag_here", "_law_go", "_law_size", "_law_unlike", "_law_facts", "_law_order", "_law_one_here", "_law_turned", "_law_other", "_law_k", "_law_fact_here", "_law_thing"]) (sc := defScope st_law) (by decide +kernel)) (fun _ _ _ _ _ => (qg_name sc_law.nd 12)) (fun _ _ _ _ _ => qts_nil) (fun _ _ _ _ _ => (qe_ix (qx (qe_var 6)) (qx (qe_var 12))))))) qxs_nil)) (qa_cons (qe_var 8) qa_nil)))))) (qss_one (qs_if (qt_not (qt_tru (qx (qe_call (okf_l_alike ih) hr tk (qa_cons (qe_var 1) (qa_cons (qe_var 7) (qa_cons (qe_var 9) (qa_cons (qe_var 6) qa_nil)))))))) (qss_one (qs_ret qe_bl)) qss_nil))))))))))) (qss_one (qs_ret qe_bl))))
end
theorem tx_mk {K : Kw} {h : Heap} {mg : Str → Option Value} (KX : Kw.In K h) (G : h.Ns mainGlobals mg) (c : SaysN fa fn ts K.w K) : Tx K K.w mg :=
  ⟨He.free_ok KX G (c.fact 0 (f := .free "abs") rfl), He.free_ok KX G (c.fact 1 (f := .free "int") rfl), He.free_ok KX G (c.fact 2 (f := .free "len") rfl), He.free_ok KX G (c.fact 3 (f := .free "list") rfl), He.free_ok KX G (c.fact 4 (f := .free "min") rfl), He.free_ok KX G (c.fact 5 (f := .free "range") rfl), He.free_ok KX G (c.fact 6 (f := .free "set") rfl), He.free_ok KX G (c.fact 7 (f := .free "tuple") rfl), He.glo_ok KX G (c.fact 8 (f := .glo "_law_bag") rfl), He.glo_ok KX G (c.fact 9 (f := .glo "_law_take") rfl), He.glo_ok KX G (c.fact 10 (f := .glo "_law_mixed") rfl), He.glo_ok KX G (c.fact 11 (f := .glo "_law_tell") rfl), He.glo_ok KX G (c.fact 12 (f := .glo "_law_made") rfl), He.glo_ok KX G (c.fact 13 (f := .glo "_law_copied") rfl), He.glo_ok KX G (c.fact 14 (f := .glo "_law_one") rfl), He.glo_ok KX G (c.fact 15 (f := .glo "_law_fact") rfl), He.glo_ok KX G (c.fact 16 (f := .glo "_law_model") rfl), He.glo_ok KX G (c.fact 17 (f := .glo "_law_truth") rfl), He.glo_ok KX G (c.fact 18 (f := .glo "_law_alike") rfl), He.glo_ok KX G (c.fact 19 (f := .glo "_law_apart") rfl), He.glo_ok KX G (c.fact 20 (f := .glo "_law_renamed") rfl), He.glo_ok KX G (c.fact 21 (f := .glo "law") rfl), He.glo_ok KX G (c.fact 22 (f := .glo "Closure") rfl), He.glo_ok KX G (c.fact 23 (f := .glo "Contradiction") rfl), cls_f (c.fact 24 (f := faB (.cls "Closure")) rfl), mkr_f (c.fact 25 (f := faB (.mkr "Closure")) rfl), noat_f (c.fact 26 (f := faB (.noat "Closure" "bars")) rfl), noat_f (c.fact 27 (f := faB (.noat "Closure" "known")) rfl), noat_f (c.fact 28 (f := faB (.noat "Closure" "parents")) rfl), noat_f (c.fact 29 (f := faB (.noat "Closure" "settled")) rfl), noat_f (c.fact 30 (f := faB (.noat "Closure" "told")) rfl), noat_f (c.fact 31 (f := faB (.noat "Closure" "unlike")) rfl), xt_f (c.fact 32 (f := xtB xtab) rfl), ext_f (c.fact 33 (f := extB "Contradiction" ext_Contradiction) rfl), x0_f (c.fact 34 (f := x0B "Contradiction") rfl), em_f (c.fact 35 (f := emB ("Closure", some "__init__") 0) rfl), meth_f (c.fact 36 (f := faB (.meth "Closure" "not_all")) rfl), meth_f (c.fact 37 (f := faB (.meth "Closure" "root")) rfl), meth_f (c.fact 38 (f := faB (.meth "Closure" "merge")) rfl), meth_f (c.fact 39 (f := faB (.meth "Closure" "join")) rfl), meth_f (c.fact 40 (f := faB (.meth "Closure" "row")) rfl), meth_f (c.fact 41 (f := faB (.meth "Closure" "copied")) rfl), meth_f (c.fact 42 (f := faB (.meth "Closure" "settle")) rfl), meth_f (c.fact 43 (f := faB (.meth "Closure" "differs")) rfl), meth_f (c.fact 44 (f := faB (.meth "Closure" "stands")) rfl), meth_f (c.fact 45 (f := faB (.meth "Closure" "same")) rfl), meth_f (c.fact 46 (f := faB (.meth "Closure" "model")) rfl), meth_f (c.fact 47 (f := faB (.meth "Closure" "facts")) rfl), c.def_ 0 (d := dd_l_bag) rfl, c.def_ 1 (d := dd_l_take) rfl, c.def_ 2 (d := dd_l_mixed) rfl, c.def_ 3 (d := dd_Closure_init) rfl, c.def_ 4 (d := dd_Closure_not_all) rfl, c.def_ 5 (d := dd_Closure_root) rfl, c.def_ 6 (d := dd_Closure_merge) rfl, c.def_ 7 (d := dd_Closure_join) rfl, c.def_ 8 (d := dd_Closure_row) rfl, c.def_ 9 (d := dd_l_tell) rfl, c.def_ 10 (d := dd_l_made) rfl, c.def_ 11 (d := dd_Closure_copied) rfl, c.def_ 12 (d := dd_Closure_settle) rfl, c.def_ 13 (d := dd_Closure_differs) rfl, c.def_ 14 (d := dd_Closure_stands) rfl, c.def_ 15 (d := dd_Closure_same) rfl, c.def_ 16 (d := dd_l_copied) rfl, c.def_ 17 (d := dd_l_one) rfl, c.def_ 18 (d := dd_l_fact) rfl, c.def_ 19 (d := dd_Closure_model) rfl, c.def_ 20 (d := dd_l_model) rfl, c.def_ 21 (d := dd_Closure_facts) rfl, c.def_ 22 (d := dd_l_truth) rfl, c.def_ 23 (d := dd_l_alike) rfl, c.def_ 24 (d := dd_l_apart) rfl, c.def_ 25 (d := dd_l_renamed) rfl, c.def_ 26 (d := dd_law) rfl⟩
end Row
open PySem PySem.W PySem.Calls PyProof.Rows
theorem PySem.Challenge.cw_foundtwice_k44_whole_closure_of_renamed_holds : PySem.Challenge.rw_foundtwice_k44_whole_closure_of_renamed.Holds := by
  w_on; o_law
  refine HandSHeadRun.head_any (r := OpenLaw.row PySem.Challenge.rw_foundtwice_k44_whole_closure_of_renamed) (q := view (OpenLaw.row PySem.Challenge.rw_foundtwice_k44_whole_closure_of_renamed).prog [20]) (H := Row.hk) (ob := Row.ob) (M := 20000) (loose := Row.loose) (d := HandSHeadRun.topDef (OpenLaw.row PySem.Challenge.rw_foundtwice_k44_whole_closure_of_renamed).prog 20) (kwd := []) Row.ob_eq
    (by kernel_rfl) (fun s => by kernel_rfl) Row.run (by kernel_rfl) (by kernel_rfl) (by kernel_rfl) (by rfl) (by first | assumption | decide +kernel) (by decide +kernel) ⟨rfl, rfl, rfl, rfl, rfl, by decide +kernel⟩ ?hw ?hc
  case hw => w_witness2
  case hc =>
    refine DL.walk_g (l := PySem.Challenge.rw_foundtwice_k44_whole_closure_of_renamed) (n := 63) (k := 2 * (30 + 1)) (x := "_law_script") rfl (by decide) (by kernel_rfl) (by kernel_rfl) ⟨⟨rfl, by decide, by decide⟩, rfl⟩ ?F
    intro w mg fa h Y G hmg0
    obtain ⟨K, KX, c⟩ := Y
    have hmg : mg ("law" : PySem.Str) = some (.ref fa) := by
      have e : (HandSHeadRun.topDef (OpenLaw.row PySem.Challenge.rw_foundtwice_k44_whole_closure_of_renamed).prog 20).name = ("law" : PySem.Str) := by kernel_rfl
      rw [← e]
      exact hmg0
    have T := Row.tx_mk (K := ⟨K, w⟩) KX G c
    have e := hmg.symm.trans T.g_law
    cases e
    obtain ⟨fd, F⟩ := T.d_law
    have b := L2.FunD.bindsA (ps := ["_law_script"]) F fun _ _ _ _ _ _ us hl => match us, hl with | [_], _ => rfl
    exact ⟨K, fd, DL.spD ⟨K, w⟩ (DL.calls (30 + 1) .law), KX, fun s v => b s [v] rfl, fun H a ns hl hS => DL.law_end DL.law_true H a ns hl hS, fun base _ _ hs => Row.ok_law T hs F⟩
