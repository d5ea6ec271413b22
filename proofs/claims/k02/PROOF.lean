import PyProof.Rows.All
import Wide.All
import OpenK.AllK
import Wide.FinOn
import HandS.ForMost
import HandS.Exc
import HandS.TupAny
import HandS.TupMul
import HandS.TupLe
import HandS.Wide
import HandS.Deep
import HandS.Text
import HandS.Dict
import HandS.Flow
import HandS.NoneIn
import HandS.Iter
import HandS.Zip
import HandS.Comp
import KE.GoesMore
import PyProof.EnumMake
import HandS.SetFor
import HandS.More
import KE.KIndexOf
import HandS.IsInst
import HandS.Small
import HandS.ExcOwn
import HandS.CallSlots
import HandS.Star
import HandS.Nested
import HandS.ExcInit
import HandS.ExcSuper
import HandS.TryMany
import HandS.ExcField
import HandS.ExcIs
import KE.KExcSuper
import HandS.TryOnly
import HandS.Defaults
import HandS.Head0
import HandS.Head1
import HandS.Head2
import HandS.HeadEnd
import HandS.HeadHook1
import HandS.HeadHook2
import PySem.Challenge.RW_signsandrests_k02_rooms_meet_and_join
/-! ## A1 -/
set_option Elab.async false
set_option linter.all false
set_option maxRecDepth 100000
set_option maxHeartbeats 2000000
/-! Part 1: plain data D, the store, worlds, what a value stands for. -/
namespace EV
open PySem PySem.Spec
open PyProof.Rows hiding St
open L2
/-- a dict's key: an int, a text; a tuple of such -/
abbrev DKey := Sum Key (List Key)
/-- plain data: tuples, lists that no longer change, instances that no longer change; loc: a cell of the store -/
inductive D where
  | non | bl (b : Bool) | int (i : Int) | str (x : Str)
  | tup (ds : List D) | ktup (ds : List D) | lst (ds : List D) | scr (ds : List D) | dct (t : Bool) (kvs : List (DKey × D))
  | loc (n : Nat) | ty (n : String) | cls (x : Str)
  | ins (c : Str) (fs : List (Str × D))
  | exn (c : Str) (fs : List (Str × D))
inductive Cell where
  | lst (ds : List D)
  | dct (t : Bool) (kvs : List (DKey × D))
  | ins (c : Str) (fs : List (Str × D))
abbrev Store := List (Option Cell)
abbrev Env := List (Option D)
/-- an exception: its class by name, its fields -/
structure Ex where
  c : Str
  fs : List (Str × D)
inductive R (α : Type) where
  | ok (a : α) (S : Store)
  | er (x : Ex) (S : Store)
  | no
def R.bind {α β : Type} (r : R α) (f : α → Store → R β) : R β := match r with
  | .ok a S => f a S
  | .er x S => .er x S
  | .no => .no
@[simp] theorem R.bind_ok {α β : Type} {a : α} {S : Store} {f : α → Store → R β} : (R.ok a S).bind f = f a S := rfl
@[simp] theorem R.bind_er {α β : Type} {x : Ex} {S : Store} {f : α → Store → R β} : (R.er x S : R α).bind f = .er x S := rfl
@[simp] theorem R.bind_no {α β : Type} {f : α → Store → R β} : (R.no : R α).bind f = .no := rfl
/-- where the module's name x stands -/
def gaK (K : PySem.W.Frag) (x : Str) : Addr := match PySem.W.nsIn K mainGlobals x with
  | some (some (.ref a)) => a
  | _ => 0
structure Wd where
  ι : List Addr
  fz : Addr → Prop
  H : Hp
/-- a tuple whose object is known (the top's; one made so): its methods may be called, it is no dict's key -/
def KT (K : PySem.W.Frag) (w : Wd) (a : Addr) (vs : List V) : Prop := (∃ o, w.H a = some (.frz o (.tup vs)) ∧ o.dict = none) ∨
    ∃ (o : Obj) (its : Array Value) (n : Nat), K.lookup a = some o ∧ o.cls = .type "tuple" ∧ o.dict = none ∧ o.data = .seq its n ∧ its.size ≤ sizeLine ∧ Vals vs its.toList
/-- a list at a that is read alone: known to the object, or the top's -/
def RdL (K : PySem.W.Frag) (w : Wd) (a : Addr) (vs : List V) : Prop := (∃ o, w.H a = some (.frz o (.lst vs))) ∨
    ∃ (o : Obj) (its : Array Value) (n : Nat), K.lookup a = some o ∧ o.cls = .type "list" ∧ o.dict = none ∧ o.data = .seq its n ∧ its.size ≤ sizeLine ∧ Vals vs its.toList
mutual
def Rep (K : PySem.W.Frag) (w : Wd) : D → V → Prop
  | .non, v => v = .non
  | .bl b, v => v = .bl b
  | .int i, v => v = .int i
  | .str x, v => v = .str x
  | .tup ds, v => ∃ a vs, v = .ref a ∧ w.H a = some (.tup vs) ∧ vs.length ≤ sizeLine ∧ RepL K w ds vs
  | .ktup ds, v => ∃ a vs, v = .ref a ∧ KT K w a vs ∧ vs.length ≤ sizeLine ∧ RepL K w ds vs
  | .lst ds, v => ∃ a vs, v = .ref a ∧ w.fz a ∧ w.H a = some (.lst vs) ∧ vs.length ≤ sizeLine ∧ RepL K w ds vs
  | .scr ds, v => ∃ a vs, v = .ref a ∧ RdL K w a vs ∧ vs.length ≤ sizeLine ∧ RepL K w ds vs
  | .dct false kvs, v => ∃ a ks, v = .ref a ∧ w.fz a ∧ w.H a = some (.dK ks) ∧ RepD K w kvs ks
  | .dct true kvs, v => ∃ a ks, v = .ref a ∧ w.fz a ∧ w.H a = some (.dT ks) ∧ RepT K w kvs ks
  | .loc n, v => ∃ a, v = .ref a ∧ w.ι[n]? = some a
  | .ty n, v => v = .ty n
  | .cls x, v => v = .ref (gaK K x)
  | .ins c fs, v => ∃ a dx vs, v = .ref a ∧ w.fz a ∧ w.H a = some (.ins (gaK K c) dx vs) ∧ RepF K w fs vs
  | .exn _ _, _ => False
def RepL (K : PySem.W.Frag) (w : Wd) : List D → List V → Prop
  | [], vs => vs = []
  | d :: ds, vs => ∃ v vs', vs = v :: vs' ∧ Rep K w d v ∧ RepL K w ds vs'
def RepD (K : PySem.W.Frag) (w : Wd) : List (DKey × D) → List (Key × V) → Prop
  | [], ks => ks = []
  | (k, d) :: r, ks => ∃ kk v ks', ks = (kk, v) :: ks' ∧ k = .inl kk ∧ Rep K w d v ∧ RepD K w r ks'
def RepT (K : PySem.W.Frag) (w : Wd) : List (DKey × D) → List (List Key × V) → Prop
  | [], ks => ks = []
  | (k, d) :: r, ks => ∃ kk v ks', ks = (kk, v) :: ks' ∧ k = .inr kk ∧ Rep K w d v ∧ RepT K w r ks'
def RepF (K : PySem.W.Frag) (w : Wd) : List (Str × D) → List (Str × V) → Prop
  | [], ks => ks = []
  | (k, d) :: r, ks => ∃ v ks', ks = (k, v) :: ks' ∧ Rep K w d v ∧ RepF K w r ks'
end
/-- a cell at a -/
def CellR (K : PySem.W.Frag) (w : Wd) (a : Addr) : Cell → Prop
  | .lst ds => ∃ vs, w.H a = some (.lst vs) ∧ vs.length ≤ sizeLine ∧ RepL K w ds vs
  | .dct false kvs => ∃ ks, w.H a = some (.dK ks) ∧ RepD K w kvs ks
  | .dct true kvs => ∃ ks, w.H a = some (.dT ks) ∧ RepT K w kvs ks
  | .ins c fs => ∃ dx vs, w.H a = some (.ins (gaK K c) dx vs) ∧ RepF K w fs vs
/-- the world bears the store -/
structure SR (K : PySem.W.Frag) (w : Wd) (S : Store) : Prop where
  len : w.ι.length = S.length
  cell : ∀ (l : Nat) (c : Cell), S[l]? = some (some c) → ∃ a, w.ι[l]? = some a ∧ ¬ w.fz a ∧ CellR K w a c
  inj : ∀ (l l' : Nat) (c c' : Cell) (a : Addr), S[l]? = some (some c) → S[l']? = some (some c') → w.ι[l]? = some a → w.ι[l']? = some a → l = l'
  fzt : ∀ a, w.fz a → ∃ o, w.H a = some o
  iot : ∀ a, a ∈ w.ι → ∃ o, w.H a = some o
/-- a world in which values stand for the same -/
structure LeV (w w' : Wd) : Prop where
  io : ∃ t, w'.ι = w.ι ++ t
  fz : ∀ a, w.fz a → w'.fz a
  fzH : ∀ a, w.fz a → w'.H a = w.H a
  tup : ∀ a xs, w.H a = some (.tup xs) → w'.H a = some (.tup xs)
  frz : ∀ a o u, w.H a = some (.frz o u) → w'.H a = some (.frz o u)
/-- a later world: what no value names stands too -/
structure Le (w w' : Wd) : Prop extends LeV w w' where
  prv : ∀ a o, w.H a = some o → ¬ w.fz a → a ∉ w.ι → w'.H a = some o ∧ ¬ w'.fz a ∧ a ∉ w'.ι
theorem Le.refl (w : Wd) : Le w w := ⟨⟨⟨[], by simp⟩, fun _ h => h, fun _ _ => rfl, fun _ _ h => h, fun _ _ _ h => h⟩, fun _ _ h1 h2 h3 => ⟨h1, h2, h3⟩⟩
theorem Le.trans {w w1 w2 : Wd} (a : Le w w1) (b : Le w1 w2) : Le w w2 := by
  refine ⟨⟨?_, fun x h => b.fz x (a.fz x h), fun x h => (b.fzH x (a.fz x h)).trans (a.fzH x h), fun x xs h => b.tup x xs (a.tup x xs h), fun x o u h => b.frz x o u (a.frz x o u h)⟩, fun x o h1 h2 h3 => ?_⟩
  · obtain ⟨t, e⟩ := a.io
    obtain ⟨t', e'⟩ := b.io
    exact ⟨t ++ t', by rw [e', e, List.append_assoc]⟩
  · obtain ⟨k1, k2, k3⟩ := a.prv x o h1 h2 h3
    exact b.prv x o k1 k2 k3
theorem LeV.refl (w : Wd) : LeV w w := (Le.refl w).toLeV
theorem LeV.trans {w w1 w2 : Wd} (a : LeV w w1) (b : LeV w1 w2) : LeV w w2 := by
  refine ⟨?_, fun x h => b.fz x (a.fz x h), fun x h => (b.fzH x (a.fz x h)).trans (a.fzH x h), fun x xs h => b.tup x xs (a.tup x xs h), fun x o u h => b.frz x o u (a.frz x o u h)⟩
  obtain ⟨t, e⟩ := a.io
  obtain ⟨t', e'⟩ := b.io
  exact ⟨t ++ t', by rw [e', e, List.append_assoc]⟩
theorem LeV.ix {w w' : Wd} (e : LeV w w') {n : Nat} {a : Addr} (h : w.ι[n]? = some a) : w'.ι[n]? = some a := by
  obtain ⟨t, q⟩ := e.io
  rw [q, List.getElem?_append_left (List.getElem?_eq_some_iff.mp h).1]
  exact h
theorem sqT_le {K : PySem.W.Frag} {w w' : Wd} (e : LeV w w') {a : Addr} {vs : List V} (h : SqT K w.H a vs) : SqT K w'.H a vs := by
  rcases h with (h | ⟨o, h⟩) | h
  · exact .inl (.inl (e.tup _ _ h))
  · exact .inl (.inr ⟨o, e.frz _ _ _ h⟩)
  · exact .inr h
theorem rdL_le {K : PySem.W.Frag} {w w' : Wd} (e : LeV w w') {a : Addr} {vs : List V} (h : RdL K w a vs) : RdL K w' a vs := by
  rcases h with ⟨o, h⟩ | h
  · exact .inl ⟨o, e.frz _ _ _ h⟩
  · exact .inr h
theorem kt_le {K : PySem.W.Frag} {w w' : Wd} (e : LeV w w') {a : Addr} {vs : List V} (h : KT K w a vs) : KT K w' a vs := by
  rcases h with ⟨o, h, hd⟩ | h
  · exact .inl ⟨o, e.frz _ _ _ h, hd⟩
  · exact .inr h
theorem KT.sq {K : PySem.W.Frag} {w : Wd} {a : Addr} {vs : List V} (h : KT K w a vs) : SqT K w.H a vs := by
  rcases h with ⟨o, h, _⟩ | ⟨o, its, n, h1, h2, _, h3⟩
  · exact .inl (.inr ⟨o, h⟩)
  · exact .inr ⟨o, its, n, h1, h2, h3⟩
theorem RdL.sq {K : PySem.W.Frag} {w : Wd} {a : Addr} {vs : List V} (h : RdL K w a vs) : SqL K w.H a vs := by
  rcases h with ⟨o, h⟩ | h
  · exact .inl (.inr ⟨o, h⟩)
  · exact .inr h
mutual
theorem rep_leV {K : PySem.W.Frag} {w w' : Wd} (e : LeV w w') : ∀ (d : D) (v : V), Rep K w d v → Rep K w' d v
  | .non, _, h => h
  | .bl _, _, h => h
  | .int _, _, h => h
  | .str _, _, h => h
  | .tup ds, v, h => by
    obtain ⟨a, vs, h1, h2, hz, h3⟩ := h
    exact ⟨a, vs, h1, e.tup _ _ h2, hz, repL_leV e ds vs h3⟩
  | .ktup ds, v, h => by
    obtain ⟨a, vs, h1, h2, hz, h3⟩ := h
    exact ⟨a, vs, h1, kt_le e h2, hz, repL_leV e ds vs h3⟩
  | .lst ds, v, h => by
    obtain ⟨a, vs, h1, z, h2, hz, h3⟩ := h
    exact ⟨a, vs, h1, e.fz _ z, (e.fzH _ z).trans h2, hz, repL_leV e ds vs h3⟩
  | .scr ds, v, h => by
    obtain ⟨a, vs, h1, h2, hz, h3⟩ := h
    exact ⟨a, vs, h1, rdL_le e h2, hz, repL_leV e ds vs h3⟩
  | .dct false kvs, v, h => by
    obtain ⟨a, ks, h1, z, h2, h3⟩ := h
    exact ⟨a, ks, h1, e.fz _ z, (e.fzH _ z).trans h2, repD_leV e kvs ks h3⟩
  | .dct true kvs, v, h => by
    obtain ⟨a, ks, h1, z, h2, h3⟩ := h
    exact ⟨a, ks, h1, e.fz _ z, (e.fzH _ z).trans h2, repT_leV e kvs ks h3⟩
  | .loc n, v, h => by
    obtain ⟨a, h1, h2⟩ := h
    exact ⟨a, h1, e.ix h2⟩
  | .ty _, _, h => h
  | .cls _, _, h => h
  | .ins c fs, v, h => by
    obtain ⟨a, dx, vs, h1, z, h2, h3⟩ := h
    exact ⟨a, dx, vs, h1, e.fz _ z, (e.fzH _ z).trans h2, repF_leV e fs vs h3⟩
  | .exn _ _, _, h => h
theorem repL_leV {K : PySem.W.Frag} {w w' : Wd} (e : LeV w w') : ∀ (ds : List D) (vs : List V), RepL K w ds vs → RepL K w' ds vs
  | [], _, h => h
  | d :: ds, vs, h => by
    obtain ⟨v, vs', h1, h2, h3⟩ := h
    exact ⟨v, vs', h1, rep_leV e d v h2, repL_leV e ds vs' h3⟩
theorem repD_leV {K : PySem.W.Frag} {w w' : Wd} (e : LeV w w') : ∀ (ds : List (DKey × D)) (vs : List (Key × V)), RepD K w ds vs → RepD K w' ds vs
  | [], _, h => h
  | (k, d) :: ds, vs, h => by
    obtain ⟨kk, v, vs', h1, h2, h3, h4⟩ := h
    exact ⟨kk, v, vs', h1, h2, rep_leV e d v h3, repD_leV e ds vs' h4⟩
theorem repT_leV {K : PySem.W.Frag} {w w' : Wd} (e : LeV w w') : ∀ (ds : List (DKey × D)) (vs : List (List Key × V)), RepT K w ds vs → RepT K w' ds vs
  | [], _, h => h
  | (k, d) :: ds, vs, h => by
    obtain ⟨kk, v, vs', h1, h2, h3, h4⟩ := h
    exact ⟨kk, v, vs', h1, h2, rep_leV e d v h3, repT_leV e ds vs' h4⟩
theorem repF_leV {K : PySem.W.Frag} {w w' : Wd} (e : LeV w w') : ∀ (ds : List (Str × D)) (vs : List (Str × V)), RepF K w ds vs → RepF K w' ds vs
  | [], _, h => h
  | (k, d) :: ds, vs, h => by
    obtain ⟨v, vs', h1, h2, h3⟩ := h
    exact ⟨v, vs', h1, rep_leV e d v h2, repF_leV e ds vs' h3⟩
end
section
variable {K : PySem.W.Frag} {w w' : Wd}
theorem rep_le (e : Le w w') (d : D) (v : V) (h : Rep K w d v) : Rep K w' d v := rep_leV e.toLeV d v h
theorem repL_le (e : Le w w') (d : List D) (v : List V) (h : RepL K w d v) : RepL K w' d v := repL_leV e.toLeV d v h
theorem repD_le (e : Le w w') (d : List (DKey × D)) (v : List (Key × V)) (h : RepD K w d v) : RepD K w' d v := repD_leV e.toLeV d v h
theorem repT_le (e : Le w w') (d : List (DKey × D)) (v : List (List Key × V)) (h : RepT K w d v) : RepT K w' d v := repT_leV e.toLeV d v h
theorem repF_le (e : Le w w') (d : List (Str × D)) (v : List (Str × V)) (h : RepF K w d v) : RepF K w' d v := repF_leV e.toLeV d v h
end
/-! ### steps of worlds -/
/-- a new object, standing still -/
def Wd.fr (w : Wd) (p : Addr) (o : HO) : Wd := ⟨w.ι, fun a => w.fz a ∨ a = p, upd w.H p o⟩
/-- a new object that is not told (a tuple) -/
def Wd.tp (w : Wd) (p : Addr) (o : HO) : Wd := ⟨w.ι, w.fz, upd w.H p o⟩
/-- a new cell -/
def Wd.nw (w : Wd) (p : Addr) (o : HO) : Wd := ⟨w.ι ++ [p], w.fz, upd w.H p o⟩
section
variable {K : PySem.W.Frag} {w w' : Wd} {S : Store} {p : Addr} {o : HO}
theorem SR.nio (s : SR K w S) (hp : w.H p = none) : p ∉ w.ι := fun h => by
  obtain ⟨o, e⟩ := s.iot p h
  rw [hp] at e; cases e
theorem SR.nfz (s : SR K w S) (hp : w.H p = none) : ¬ w.fz p := fun h => by
  obtain ⟨o, e⟩ := s.fzt p h
  rw [hp] at e; cases e
theorem le_fr (s : SR K w S) (hp : w.H p = none) : Le w (w.fr p o) := by
  refine ⟨⟨⟨[], by simp [Wd.fr]⟩, fun _ h => .inl h, fun a h => ?_, fun a xs h => ?_, fun a o u h => ?_⟩, fun a u h1 h2 h3 => ?_⟩
  · exact upd_ne fun e => s.nfz hp (e ▸ h)
  · exact (upd_ne (ne_of_none h hp)).trans h
  · exact (upd_ne (ne_of_none h hp)).trans h
  · refine ⟨(upd_ne (ne_of_none h1 hp)).trans h1, fun z => ?_, h3⟩
    rcases z with z | z
    · exact h2 z
    · exact ne_of_none h1 hp z
theorem le_tp (s : SR K w S) (hp : w.H p = none) : Le w (w.tp p o) := by
  refine ⟨⟨⟨[], by simp [Wd.tp]⟩, fun _ h => h, fun a h => ?_, fun a xs h => ?_, fun a o u h => ?_⟩, fun a u h1 h2 h3 => ?_⟩
  · exact upd_ne fun e => s.nfz hp (e ▸ h)
  · exact (upd_ne (ne_of_none h hp)).trans h
  · exact (upd_ne (ne_of_none h hp)).trans h
  · exact ⟨(upd_ne (ne_of_none h1 hp)).trans h1, h2, h3⟩
theorem le_nw (s : SR K w S) (hp : w.H p = none) : Le w (w.nw p o) := by
  refine ⟨⟨⟨[p], rfl⟩, fun _ h => h, fun a h => ?_, fun a xs h => ?_, fun a o u h => ?_⟩, fun a u h1 h2 h3 => ?_⟩
  · exact upd_ne fun e => s.nfz hp (e ▸ h)
  · exact (upd_ne (ne_of_none h hp)).trans h
  · exact (upd_ne (ne_of_none h hp)).trans h
  · refine ⟨(upd_ne (ne_of_none h1 hp)).trans h1, h2, fun z => ?_⟩
    rcases List.mem_append.mp z with z | z
    · exact h3 z
    · exact ne_of_none h1 hp (List.mem_singleton.mp z)
theorem cell_leV (e : LeV w w') {a : Addr} {c : Cell} (hH : w'.H a = w.H a) (h : CellR K w a c) : CellR K w' a c := by
  cases c with
  | lst ds =>
    obtain ⟨vs, h1, hz, h2⟩ := h
    exact ⟨vs, hH.trans h1, hz, repL_leV e _ _ h2⟩
  | dct t kvs =>
    cases t with
    | false =>
      obtain ⟨ks, h2, h3⟩ := h
      exact ⟨ks, hH.trans h2, repD_leV e kvs ks h3⟩
    | true =>
      obtain ⟨ks, h2, h3⟩ := h
      exact ⟨ks, hH.trans h2, repT_leV e kvs ks h3⟩
  | ins c fs =>
    obtain ⟨dx, vs, h1, h2⟩ := h
    exact ⟨dx, vs, hH.trans h1, repF_leV e _ _ h2⟩
theorem cell_le (e : Le w w') {a : Addr} {c : Cell} (hH : w'.H a = w.H a) (h : CellR K w a c) : CellR K w' a c := cell_leV e.toLeV hH h
theorem SR.cellH (s : SR K w S) {l : Nat} {c : Cell} (h : S[l]? = some (some c)) : ∃ a o, w.ι[l]? = some a ∧ w.H a = some o ∧ ¬ w.fz a ∧ CellR K w a c := by
  obtain ⟨a, h1, h2, h3⟩ := s.cell l c h
  obtain ⟨o, h4⟩ := s.iot a (List.mem_of_getElem? h1)
  exact ⟨a, o, h1, h4, h2, h3⟩
theorem sr_fr (s : SR K w S) (hp : w.H p = none) : SR K (w.fr p o) S := by
  have le := le_fr (o := o) s hp
  refine ⟨s.len, fun l c h => ?_, s.inj, fun a h => ?_, fun a h => ?_⟩
  · obtain ⟨a, u, h1, h2, h3, h4⟩ := s.cellH h
    have ne := ne_of_none h2 hp
    exact ⟨a, h1, fun z => z.elim h3 ne, cell_le le (upd_ne ne) h4⟩
  · rcases h with h | h
    · obtain ⟨u, e⟩ := s.fzt a h
      exact ⟨u, (upd_ne (ne_of_none e hp)).trans e⟩
    · exact ⟨o, by rw [h]; exact upd_same⟩
  · obtain ⟨u, e⟩ := s.iot a h
    exact ⟨u, (upd_ne (ne_of_none e hp)).trans e⟩
theorem sr_tp (s : SR K w S) (hp : w.H p = none) : SR K (w.tp p o) S := by
  have le := le_tp (o := o) s hp
  refine ⟨s.len, fun l c h => ?_, s.inj, fun a h => ?_, fun a h => ?_⟩
  · obtain ⟨a, u, h1, h2, h3, h4⟩ := s.cellH h
    exact ⟨a, h1, h3, cell_le le (upd_ne (ne_of_none h2 hp)) h4⟩
  · obtain ⟨u, e⟩ := s.fzt a h
    exact ⟨u, (upd_ne (ne_of_none e hp)).trans e⟩
  · obtain ⟨u, e⟩ := s.iot a h
    exact ⟨u, (upd_ne (ne_of_none e hp)).trans e⟩
theorem sr_nw {c : Cell} (s : SR K w S) (hp : w.H p = none) (hc : CellR K (w.nw p o) p c) : SR K (w.nw p o) (S ++ [some c]) := by
  have le := le_nw (o := o) s hp
  have hlt : ∀ {l : Nat} {c' : Cell}, (S ++ [some c])[l]? = some (some c') → (l < S.length ∧ S[l]? = some (some c')) ∨ (l = S.length ∧ c' = c) := fun {l c'} h => by
    by_cases hl : l < S.length
    · rw [List.getElem?_append_left hl] at h
      exact .inl ⟨hl, h⟩
    · rw [List.getElem?_append_right (by omega)] at h
      have e : l - S.length = 0 := by
        have := (List.getElem?_eq_some_iff.mp h).1
        simp at this
        omega
      rw [e] at h
      simp at h
      exact .inr ⟨by omega, h.symm⟩
  have ixo : ∀ {l : Nat} {a : Addr}, l < S.length → (w.nw p o).ι[l]? = some a → w.ι[l]? = some a := fun {l a} hl h => by
    have h' : (w.ι ++ [p])[l]? = some a := h
    rw [List.getElem?_append_left (by rw [s.len]; exact hl)] at h'
    exact h'
  have ixn : ∀ {a : Addr}, (w.nw p o).ι[S.length]? = some a → a = p := fun {a} h => by
    have h' : (w.ι ++ [p])[S.length]? = some a := h
    rw [List.getElem?_append_right (by rw [s.len]; exact Nat.le_refl _), s.len, Nat.sub_self] at h'
    simp at h'
    exact h'.symm
  refine ⟨by simp [Wd.nw, s.len], fun l c' h => ?_, fun l l' c1 c2 a h1 h2 h3 h4 => ?_, fun a h => ?_, fun a h => ?_⟩
  · rcases hlt h with ⟨hl, h⟩ | ⟨rfl, rfl⟩
    · obtain ⟨a, u, h1, h2, h3, h4⟩ := s.cellH h
      exact ⟨a, le.ix h1, h3, cell_le le (upd_ne (ne_of_none h2 hp)) h4⟩
    · refine ⟨p, ?_, s.nfz hp, hc⟩
      show (w.ι ++ [p])[S.length]? = some p
      rw [List.getElem?_append_right (by rw [s.len]; exact Nat.le_refl _), s.len, Nat.sub_self]
      rfl
  · rcases hlt h1 with ⟨hl, h1⟩ | ⟨rfl, rfl⟩
    · rcases hlt h2 with ⟨hl', h2⟩ | ⟨rfl, rfl⟩
      · exact s.inj l l' c1 c2 a h1 h2 (ixo hl h3) (ixo hl' h4)
      · exact absurd (List.mem_of_getElem? (ixo hl h3)) (by rw [ixn h4]; exact s.nio hp)
    · rcases hlt h2 with ⟨hl', h2⟩ | ⟨rfl, rfl⟩
      · exact absurd (List.mem_of_getElem? (ixo hl' h4)) (by rw [ixn h3]; exact s.nio hp)
      · rfl
  · obtain ⟨u, e⟩ := s.fzt a h
    exact ⟨u, (upd_ne (ne_of_none e hp)).trans e⟩
  · rcases List.mem_append.mp h with h | h
    · obtain ⟨u, e⟩ := s.iot a h
      exact ⟨u, (upd_ne (ne_of_none e hp)).trans e⟩
    · exact ⟨o, by rw [List.mem_singleton.mp h]; exact upd_same⟩
end
end EV
/-! ## A2 -/
set_option Elab.async false
set_option linter.all false
set_option maxRecDepth 100000
set_option maxHeartbeats 2000000
/-! Part 2: what an expression's meaning on data says of its reading. -/
namespace EV
open PySem PySem.Spec
open PyProof.Rows hiding St
open L2
abbrev EM := Env → Store → R D
/-- an except suite's exception: its slot, address, class, own dict -/
abbrev Xc := Option (Nat × Addr × Value × Option Addr)
def FldR (K : PySem.W.Frag) (w : Wd) (fs : List (Str × D)) (vs : List (Str × V)) : Prop := ∀ f d, fs.lookup f = some d → ∃ v, vs.lookup f = some v ∧ Rep K w d v
/-- an exception's class and own dict -/
def ExR (K : PySem.W.Frag) (w : Wd) (x : Ex) (cls : Value) (d : Option Addr) : Prop :=
  cls = .ref (gaK K x.c) ∧ ((x.fs = [] ∧ d = none) ∨ ∃ dd vs, d = some dd ∧ w.H dd = some (.xd vs) ∧ ¬ w.fz dd ∧ dd ∉ w.ι ∧ FldR K w x.fs vs)
theorem exR_le {K : PySem.W.Frag} {w w' : Wd} (e : Le w w') {x : Ex} {cls : Value} {d : Option Addr} (h : ExR K w x cls d) : ExR K w' x cls d := by
  obtain ⟨h1, h⟩ := h
  refine ⟨h1, ?_⟩
  rcases h with h | ⟨dd, vs, h2, h3, h4, h5, h6⟩
  · exact .inl h
  · obtain ⟨k1, k2, k3⟩ := e.prv _ _ h3 h4 h5
    exact .inr ⟨dd, vs, h2, k1, k2, k3, fun f d q => by
      obtain ⟨v, a, b⟩ := h6 f d q
      exact ⟨v, a, rep_le e _ _ b⟩⟩
/-- a slot -/
def SlotR (K : PySem.W.Frag) (x : Xc) (w : Wd) (j : Nat) (d : D) (v : V) : Prop :=
  Rep K w d v ∨ ∃ a cls dd c fs, x = some (j, a, cls, dd) ∧ d = .exn c fs ∧ v = .ref a ∧ ExR K w ⟨c, fs⟩ cls dd
structure EnvR (K : PySem.W.Frag) (x : Xc) (w : Wd) (env : Env) (σ : St) : Prop where
  len : env.length = σ.length
  at_ : ∀ (j : Nat) (d : D), env[j]? = some (some d) → ∃ v, σ[j]? = some (some v) ∧ SlotR K x w j d v
theorem EnvR.le {K : PySem.W.Frag} {x : Xc} {w w' : Wd} {env : Env} {σ : St} (h : EnvR K x w env σ) (e : Le w w') : EnvR K x w' env σ := by
  refine ⟨h.len, fun j d q => ?_⟩
  obtain ⟨v, h1, h2⟩ := h.at_ j d q
  refine ⟨v, h1, ?_⟩
  rcases h2 with h2 | ⟨a, cls, dd, c, fs, k1, k2, k3, k4⟩
  · exact .inl (rep_le e _ _ h2)
  · exact .inr ⟨a, cls, dd, c, fs, k1, k2, k3, exR_le e k4⟩
/-- what is wanted of a result -/
def Post {α : Type} (K : PySem.W.Frag) (W : WX) (σ : St) (w : Wd) (r : R α) (Q : α → Store → Wd → Prop) : Prop := match r with
  | .ok d S' => ∀ w', Le w w' → SR K w' S' → Q d S' w'
  | .er x S' => ∀ w' cls dd, Le w w' → SR K w' S' → ExR K w' x cls dd → W cls dd σ w'.H
  | .no => False
section
variable {α β : Type} {K : PySem.W.Frag} {W : WX} {σ : St} {w w' : Wd} {r : R α} {f : α → Store → R β} {Q Q' : α → Store → Wd → Prop} {Q2 : β → Store → Wd → Prop}
theorem Post.le (e : Le w w') (h : Post K W σ w r Q) : Post K W σ w' r Q := by
  cases r with
  | ok d S' => exact fun w2 l s => h w2 (e.trans l) s
  | er x S' => exact fun w2 cls dd l s => h w2 cls dd (e.trans l) s
  | no => exact h
theorem Post.mono (h : Post K W σ w r Q) (k : ∀ d S' w', Le w w' → SR K w' S' → Q d S' w' → Q' d S' w') : Post K W σ w r Q' := by
  cases r with
  | ok d S' => exact fun w2 l s => k _ _ _ l s (h w2 l s)
  | er x S' => exact h
  | no => exact h
theorem Post.bind (h : Post K W σ w (r.bind f) Q2) : Post K W σ w r (fun a S' w' => Post K W σ w' (f a S') Q2) := by
  cases r with
  | ok d S' => exact fun w2 l s => Post.le l h
  | er x S' => exact h
  | no => exact h
end
/-- the reading of a meaning -/
def rd (K : PySem.W.Frag) (W : WX) (x : Xc) (m : EM) : TE := fun σ H Q => ∃ w env S, w.H = H ∧ SR K w S ∧ EnvR K x w env σ ∧ Post K W σ w (m env S) (fun d _ w' => ∀ v, Rep K w' d v → Q v w'.H)
abbrev BM := Env → Store → R Bool
def rdB (K : PySem.W.Frag) (W : WX) (x : Xc) (m : BM) : TT := fun σ H Q => ∃ w env S, w.H = H ∧ SR K w S ∧ EnvR K x w env σ ∧ Post K W σ w (m env S) (fun b _ w' => Q b w'.H)
abbrev AM := Env → Store → R (List D)
def rdA (K : PySem.W.Frag) (W : WX) (x : Xc) (m : AM) : TA := fun σ H Q => ∃ w env S, w.H = H ∧ SR K w S ∧ EnvR K x w env σ ∧ Post K W σ w (m env S) (fun ds _ w' => ∀ vs, RepL K w' ds vs → Q vs w'.H)
section
variable {X : Cx} {e : Expr} {t t' : TE} {u u' : TT} {a a' : TA}
theorem PEimp (h : PE X e t) (k : ∀ σ H Q, t' σ H Q → t σ H Q) : PE X e t' := ⟨fun pins s σ H Q I q => h.run pins s σ H Q I (k σ H Q q)⟩
theorem PTimp (h : PT X e u) (k : ∀ σ H Q, u' σ H Q → u σ H Q) : PT X e u' := ⟨fun pins s σ H Q I q => h.run pins s σ H Q I (k σ H Q q)⟩
theorem PWimp (h : PW X e u) (k : ∀ σ H Q, u' σ H Q → u σ H Q) : PW X e u' := ⟨fun wh pins s σ H Q I q => h.run wh pins s σ H Q I (k σ H Q q)⟩
theorem PAimp {es : List Expr} (h : PA X es a) (k : ∀ σ H Q, a' σ H Q → a σ H Q) : PA X es a' := ⟨fun pos pins s σ H Q I q => h.run pos pins s σ H Q I (k σ H Q q)⟩
end
/-- one part of a reading -/
theorem rd_to {K : PySem.W.Frag} {W : WX} {x : Xc} {m : EM} {σ : St} {w : Wd} {env : Env} {S : Store} {Q : VK} (s : SR K w S) (er : EnvR K x w env σ) (h : Post K W σ w (m env S) (fun d _ w' => ∀ v, Rep K w' d v → Q v w'.H)) : rd K W x m σ w.H Q := ⟨w, env, S, rfl, s, er, h⟩
/-! ### names, constants -/
def eVar (i : Nat) : EM := fun env S => match env[i]? with
  | some (some (.exn _ _)) => .no
  | some (some d) => .ok d S
  | _ => .no
def eC (d : D) : EM := fun _ S => .ok d S
section
variable {K : PySem.W.Frag} {W : WX} {x : Xc} {σ : St} {H : Hp} {Q : VK}
theorem sim_var {i : Nat} (h : rd K W x (eVar i) σ H Q) : tVar i σ H Q := by
  obtain ⟨w, env, S, rfl, s, er, h⟩ := h
  unfold eVar at h
  cases e : env[i]? with
  | none => rw [e] at h; exact h.elim
  | some o =>
    cases o with
    | none => rw [e] at h; exact h.elim
    | some d =>
      obtain ⟨v, h1, h2⟩ := er.at_ i d e
      rw [e] at h
      rcases h2 with h2 | ⟨a, cls, dd, c, fs, _, k2, _⟩
      · refine ⟨v, h1, ?_⟩
        cases d with
        | exn c fs => exact h2.elim
        | _ => exact h w (Le.refl w) s v h2
      · rw [k2] at h
        exact h.elim
theorem sim_c {d : D} {v : V} (hv : ∀ w, Rep K w d v) (h : rd K W x (eC d) σ H Q) : tC v σ H Q := by
  obtain ⟨w, env, S, rfl, s, er, h⟩ := h
  exact h w (Le.refl w) s v (hv w)
end
/-! ### two operands -/
abbrev F2 := D → D → Store → R D
def eBin (f : F2) (a b : EM) : EM := fun env S => (a env S).bind fun x S1 => (b env S1).bind fun y S2 => f x y S2
/-- an operation on data is borne by the rule r -/
def OpL (K : PySem.W.Frag) (r : R2) (f : F2) : Prop := ∀ (W : WX) (σ : St) (w : Wd) (S : Store) (a b : D) (x y : V) (Q : VK), SR K w S → Rep K w a x → Rep K w b y →
  Post K W σ w (f a b S) (fun d _ w' => ∀ v, Rep K w' d v → Q v w'.H) → r x y w.H Q
section
variable {K : PySem.W.Frag} {W : WX} {x : Xc} {σ : St} {H : Hp} {Q : VK}
theorem sim_bin {r : R2} {f : F2} {ma mb : EM} (ho : OpL K r f) (h : rd K W x (eBin f ma mb) σ H Q) : tOp r (rd K W x ma) (rd K W x mb) σ H Q := by
  obtain ⟨w, env, S, rfl, s, er, h⟩ := h
  refine ⟨w, env, S, rfl, s, er, h.bind.mono fun a S1 w1 l1 s1 h1 v rv => ?_⟩
  refine ⟨w1, env, S1, rfl, s1, er.le l1, h1.bind.mono fun b S2 w2 l2 s2 h2 u ru => ?_⟩
  exact ho W σ w2 S2 a b v u Q s2 (rep_le l2 _ _ rv) ru h2
end
def rOr (r r' : R2) : R2 := fun x y H Q => r x y H Q ∨ r' x y H Q
theorem OpR.or {X : Cx} {f : Value → Value → Sem Value} {r r' : R2} (h : OpR X f r) (h' : OpR X f r') : OpR X f (rOr r r') := fun pins s σ H x y v u Q I rx ry q => by
  rcases q with q | q
  · exact h pins s σ H x y v u Q I rx ry q
  · exact h' pins s σ H x y v u Q I rx ry q
/-- an answer that the rule hands on as it is -/
theorem post_at {K : PySem.W.Frag} {W : WX} {σ : St} {w : Wd} {S : Store} {d : D} {v : V} {Q : VK} (s : SR K w S) (h : Post K W σ w (.ok d S) (fun d _ w' => ∀ v, Rep K w' d v → Q v w'.H)) (hv : Rep K w d v) : Q v w.H := h w (Le.refl w) s v hv
/-- an answer that is a new object standing still -/
theorem post_fr {K : PySem.W.Frag} {W : WX} {σ : St} {w : Wd} {S : Store} {d : D} {p : Addr} {o : HO} {Q : VK} (s : SR K w S) (hp : w.H p = none) (h : Post K W σ w (.ok d S) (fun d _ w' => ∀ v, Rep K w' d v → Q v w'.H)) (hv : Rep K (w.fr p o) d (.ref p)) :
    Q (.ref p) (upd w.H p o) := h (w.fr p o) (le_fr s hp) (sr_fr s hp) _ hv
theorem post_tp {K : PySem.W.Frag} {W : WX} {σ : St} {w : Wd} {S : Store} {d : D} {p : Addr} {o : HO} {Q : VK} (s : SR K w S) (hp : w.H p = none) (h : Post K W σ w (.ok d S) (fun d _ w' => ∀ v, Rep K w' d v → Q v w'.H)) (hv : Rep K (w.tp p o) d (.ref p)) :
    Q (.ref p) (upd w.H p o) := h (w.tp p o) (le_tp s hp) (sr_tp s hp) _ hv
theorem post_nw {K : PySem.W.Frag} {W : WX} {σ : St} {w : Wd} {S : Store} {c : Cell} {d : D} {p : Addr} {o : HO} {Q : VK} (s : SR K w S) (hp : w.H p = none) (h : Post K W σ w (.ok d (S ++ [some c])) (fun d _ w' => ∀ v, Rep K w' d v → Q v w'.H)) (hc : CellR K (w.nw p o) p c) (hv : Rep K (w.nw p o) d (.ref p)) :
    Q (.ref p) (upd w.H p o) := h (w.nw p o) (le_nw s hp) (sr_nw s hp hc) _ hv
/-! ### sequences that are read -/
/-- a list: standing still, a cell, read alone -/
def asL (S : Store) : D → Option (List D)
  | .lst ds => some ds
  | .scr ds => some ds
  | .loc n => match S[n]? with
    | some (some (.lst ds)) => some ds
    | _ => none
  | _ => none
/-- .. one that is tracked -/
def asLT (S : Store) : D → Option (List D)
  | .lst ds => some ds
  | .loc n => match S[n]? with
    | some (some (.lst ds)) => some ds
    | _ => none
  | _ => none
def asT : D → Option (List D)
  | .tup ds => some ds
  | .ktup ds => some ds
  | _ => none
def asQ (S : Store) (d : D) : Option (List D) := match d with
  | .tup ds => some ds
  | .ktup ds => some ds
  | d => asL S d
section
variable {K : PySem.W.Frag} {w : Wd} {S : Store} {d : D} {ds : List D} {v : V}
theorem asLT_ofz (s : SR K w S) (h : asLT S d = some ds) (r : Rep K w d v) : ∃ a vs, v = .ref a ∧ w.H a = some (.lst vs) ∧ RepL K w ds vs ∧ vs.length ≤ sizeLine := by
  cases d with
  | lst es =>
    cases h
    obtain ⟨a, vs, h1, _, h2, hz, h3⟩ := r
    exact ⟨a, vs, h1, h2, h3, hz⟩
  | loc n =>
    obtain ⟨a, h1, h2⟩ := r
    simp only [asLT] at h
    cases e : S[n]? with
    | none => rw [e] at h; cases h
    | some c =>
      rw [e] at h
      cases c with
      | none => cases h
      | some c =>
        cases c with
        | lst es =>
          cases h
          obtain ⟨b, k1, k2, vs, k3, kz, k4⟩ := s.cell n _ e
          rw [h2] at k1
          cases k1
          exact ⟨a, vs, h1, k3, k4, kz⟩
        | _ => cases h
  | _ => cases h
theorem asLT_of (s : SR K w S) (h : asLT S d = some ds) (r : Rep K w d v) : ∃ a vs, v = .ref a ∧ w.H a = some (.lst vs) ∧ RepL K w ds vs := by
  obtain ⟨a, vs, h1, h2, h3, _⟩ := asLT_ofz s h r
  exact ⟨a, vs, h1, h2, h3⟩
theorem asL_ofz (s : SR K w S) (h : asL S d = some ds) (r : Rep K w d v) : ∃ a vs, v = .ref a ∧ SqL K w.H a vs ∧ RepL K w ds vs ∧ vs.length ≤ sizeLine := by
  have key : asLT S d = some ds → ∃ a vs, v = .ref a ∧ SqL K w.H a vs ∧ RepL K w ds vs ∧ vs.length ≤ sizeLine := fun h => by
    obtain ⟨a, vs, h1, h2, h3, hz⟩ := asLT_ofz s h r
    exact ⟨a, vs, h1, SqL.of h2, h3, hz⟩
  cases d with
  | lst es => exact key h
  | loc n => exact key h
  | scr es =>
    cases h
    obtain ⟨a, vs, h1, h2, hz, h3⟩ := r
    exact ⟨a, vs, h1, h2.sq, h3, hz⟩
  | _ => cases h
theorem asL_of (s : SR K w S) (h : asL S d = some ds) (r : Rep K w d v) : ∃ a vs, v = .ref a ∧ SqL K w.H a vs ∧ RepL K w ds vs := by
  obtain ⟨a, vs, h1, h2, h3, _⟩ := asL_ofz s h r
  exact ⟨a, vs, h1, h2, h3⟩
theorem asT_ofz (h : asT d = some ds) (r : Rep K w d v) : ∃ a vs, v = .ref a ∧ SqT K w.H a vs ∧ RepL K w ds vs ∧ vs.length ≤ sizeLine := by
  cases d with
  | tup es =>
    cases h
    obtain ⟨a, vs, h1, h2, hz, h3⟩ := r
    exact ⟨a, vs, h1, SqT.of h2, h3, hz⟩
  | ktup es =>
    cases h
    obtain ⟨a, vs, h1, h2, hz, h3⟩ := r
    exact ⟨a, vs, h1, h2.sq, h3, hz⟩
  | _ => cases h
theorem asT_of (h : asT d = some ds) (r : Rep K w d v) : ∃ a vs, v = .ref a ∧ SqT K w.H a vs ∧ RepL K w ds vs := by
  obtain ⟨a, vs, h1, h2, h3, _⟩ := asT_ofz h r
  exact ⟨a, vs, h1, h2, h3⟩
theorem asQ_ofz (s : SR K w S) (h : asQ S d = some ds) (r : Rep K w d v) : ∃ a vs, v = .ref a ∧ (SqL K w.H a vs ∨ SqT K w.H a vs) ∧ RepL K w ds vs ∧ vs.length ≤ sizeLine := by
  have key : asL S d = some ds → ∃ a vs, v = .ref a ∧ (SqL K w.H a vs ∨ SqT K w.H a vs) ∧ RepL K w ds vs ∧ vs.length ≤ sizeLine := fun h => by
    obtain ⟨a, vs, h1, h2, h3, hz⟩ := asL_ofz s h r
    exact ⟨a, vs, h1, .inl h2, h3, hz⟩
  have keyT : asT d = some ds → ∃ a vs, v = .ref a ∧ (SqL K w.H a vs ∨ SqT K w.H a vs) ∧ RepL K w ds vs ∧ vs.length ≤ sizeLine := fun h => by
    obtain ⟨a, vs, h1, h2, h3, hz⟩ := asT_ofz h r
    exact ⟨a, vs, h1, .inr h2, h3, hz⟩
  cases d with
  | tup es => exact keyT h
  | ktup es => exact keyT h
  | lst es => exact key h
  | loc n => exact key h
  | scr es => exact key h
  | _ => cases h
theorem asQ_of (s : SR K w S) (h : asQ S d = some ds) (r : Rep K w d v) : ∃ a vs, v = .ref a ∧ (SqL K w.H a vs ∨ SqT K w.H a vs) ∧ RepL K w ds vs := by
  obtain ⟨a, vs, h1, h2, h3, _⟩ := asQ_ofz s h r
  exact ⟨a, vs, h1, h2, h3⟩
theorem RepL.length : ∀ {ds : List D} {vs : List V}, RepL K w ds vs → ds.length = vs.length
  | [], _, h => by cases (show _ = _ from h); rfl
  | d :: ds, _, h => by
    obtain ⟨v, vs', rfl, h1, h2⟩ := h
    simp [RepL.length h2]
theorem RepL.get : ∀ {ds : List D} {vs : List V} {i : Nat} {d : D}, RepL K w ds vs → ds[i]? = some d → ∃ v, vs[i]? = some v ∧ Rep K w d v
  | [], _, _, _, _, e => by simp at e
  | d :: ds, _, 0, _, h, e => by
    obtain ⟨v, vs', rfl, h1, h2⟩ := h
    simp at e
    subst e
    exact ⟨v, rfl, h1⟩
  | d :: ds, _, i + 1, _, h, e => by
    obtain ⟨v, vs', rfl, h1, h2⟩ := h
    obtain ⟨u, k1, k2⟩ := RepL.get (i := i) h2 (by simpa using e)
    exact ⟨u, by simpa using k1, k2⟩
theorem RepL.append : ∀ {ds es : List D} {vs us : List V}, RepL K w ds vs → RepL K w es us → RepL K w (ds ++ es) (vs ++ us)
  | [], _, _, _, h, h' => by cases (show _ = _ from h); exact h'
  | d :: ds, _, _, _, h, h' => by
    obtain ⟨v, vs', rfl, h1, h2⟩ := h
    exact ⟨v, vs' ++ _, rfl, h1, RepL.append h2 h'⟩
theorem RepL.take : ∀ {ds : List D} {vs : List V} (n : Nat), RepL K w ds vs → RepL K w (ds.take n) (vs.take n)
  | _, _, 0, _ => by rw [List.take_zero, List.take_zero]; exact rfl
  | [], _, n + 1, h => by cases (show _ = _ from h); exact rfl
  | d :: ds, _, n + 1, h => by
    obtain ⟨v, vs', rfl, h1, h2⟩ := h
    exact ⟨v, _, rfl, h1, RepL.take n h2⟩
theorem RepL.drop : ∀ {ds : List D} {vs : List V} (n : Nat), RepL K w ds vs → RepL K w (ds.drop n) (vs.drop n)
  | _, _, 0, h => h
  | [], _, n + 1, h => by cases (show _ = _ from h); exact rfl
  | d :: ds, _, n + 1, h => by
    obtain ⟨v, vs', rfl, h1, h2⟩ := h
    exact RepL.drop n h2
theorem RepL.set {d : D} {v : V} (r : Rep K w d v) : ∀ {ds : List D} {vs : List V} (n : Nat), RepL K w ds vs → RepL K w (ds.set n d) (vs.set n v)
  | [], _, _, h => by cases (show _ = _ from h); exact rfl
  | _ :: ds, _, 0, h => by
    obtain ⟨v', vs', rfl, h1, h2⟩ := h
    exact ⟨v, vs', rfl, r, h2⟩
  | _ :: ds, _, n + 1, h => by
    obtain ⟨v', vs', rfl, h1, h2⟩ := h
    exact ⟨v', _, rfl, h1, RepL.set r n h2⟩
theorem RepL.reverse {ds : List D} {vs : List V} (h : RepL K w ds vs) : RepL K w ds.reverse vs.reverse := by
  induction ds generalizing vs with
  | nil => cases (show _ = _ from h); exact rfl
  | cons d ds ih =>
    obtain ⟨v, vs', rfl, h1, h2⟩ := h
    rw [List.reverse_cons, List.reverse_cons]
    exact (ih h2).append ⟨v, [], rfl, h1, rfl⟩
theorem RepL.eraseIdx : ∀ {ds : List D} {vs : List V} (n : Nat), RepL K w ds vs → RepL K w (ds.eraseIdx n) (vs.eraseIdx n)
  | [], _, _, h => by cases (show _ = _ from h); exact rfl
  | _ :: ds, _, 0, h => by
    obtain ⟨v', vs', rfl, h1, h2⟩ := h
    exact h2
  | _ :: ds, _, n + 1, h => by
    obtain ⟨v', vs', rfl, h1, h2⟩ := h
    exact ⟨v', _, rfl, h1, RepL.eraseIdx n h2⟩
theorem RepL.ints : ∀ {ns : List Int} {vs : List V}, RepL K w (ns.map D.int) vs → vs = ns.map V.int
  | [], _, h => h
  | n :: ns, _, h => by
    obtain ⟨v, vs', rfl, h1, h2⟩ := h
    rw [show v = V.int n from h1, RepL.ints h2]
    rfl
theorem RepL.of_ints : ∀ {ns : List Int}, RepL K w (ns.map D.int) (ns.map V.int)
  | [] => rfl
  | n :: ns => ⟨V.int n, ns.map V.int, rfl, rfl, RepL.of_ints⟩
end
end EV
/-! ## A3 -/
set_option Elab.async false
set_option linter.all false
set_option maxRecDepth 100000
set_option maxHeartbeats 2000000
/-! Part 3: operators on data. -/
namespace EV
open PySem PySem.Spec
open PyProof.Rows hiding St
open L2
/-! ### data that == tells apart -/
def mapO {α β : Type} (f : α → Option β) : List α → Option (List β)
  | [] => some []
  | x :: xs => match f x, mapO f xs with
    | some y, some ys => some (y :: ys)
    | _, _ => none
def toPy (S : Store) : Nat → D → Option PyData
  | 0, _ => none
  | _ + 1, .non => some .none
  | _ + 1, .bl b => some (.bool b)
  | _ + 1, .int i => some (.int i)
  | _ + 1, .str x => some (.str x)
  | n + 1, .tup ds => (mapO (toPy S n) ds).map .tuple
  | n + 1, .ktup ds => (mapO (toPy S n) ds).map .tuple
  | n + 1, .lst ds => (mapO (toPy S n) ds).map .list
  | n + 1, .scr ds => (mapO (toPy S n) ds).map .list
  | n + 1, .loc l => match S[l]? with
    | some (some (.lst ds)) => (mapO (toPy S n) ds).map .list
    | _ => none
  | _ + 1, _ => none
section
variable {K : PySem.W.Frag} {w : Wd} {S : Store}
theorem mapO_of {f : D → Option PyData} (hf : ∀ d v p, f d = some p → Rep K w d v → Dp K w.H v p) : ∀ (ds : List D) (vs : List V) (ps : List PyData), mapO f ds = some ps → RepL K w ds vs → DpAll K w.H vs ps
  | [], vs, ps, h, r => by cases h; cases (show vs = _ from r); exact .nil
  | d :: ds, vs, ps, h, r => by
    obtain ⟨v, vs', rfl, h1, h2⟩ := r
    simp only [mapO] at h
    cases e : f d with
    | none => rw [e] at h; cases h
    | some p =>
      cases e2 : mapO f ds with
      | none => rw [e, e2] at h; cases h
      | some qs =>
        rw [e, e2] at h
        cases h
        exact .cons (hf d v p e h1) (mapO_of hf ds vs' qs e2 h2)
theorem map_some {α β : Type} {f : α → β} {o : Option α} {b : β} (h : o.map f = some b) : ∃ a, o = some a ∧ f a = b := by
  cases o with
  | none => cases h
  | some a => exact ⟨a, rfl, Option.some.inj h⟩
theorem toPy_of (s : SR K w S) : ∀ (n : Nat) (d : D) (v : V) (p : PyData), toPy S n d = some p → Rep K w d v → Dp K w.H v p := by
  intro n
  induction n with
  | zero => intro d v p h; cases h
  | succ n ih =>
    intro d v p h r
    cases d with
    | non => cases h; cases (show v = _ from r); exact .non
    | bl b => cases h; cases (show v = _ from r); exact .bl b
    | int i => cases h; cases (show v = _ from r); exact .int i
    | str x => cases h; cases (show v = _ from r); exact .str x
    | tup ds =>
      obtain ⟨a, vs, rfl, h2, _, h3⟩ := r
      obtain ⟨ps, e, rfl⟩ := map_some h
      exact .tup (SqT.of h2) (mapO_of ih ds vs ps e h3)
    | ktup ds =>
      obtain ⟨a, vs, rfl, h2, _, h3⟩ := r
      obtain ⟨ps, e, rfl⟩ := map_some h
      exact .tup h2.sq (mapO_of ih ds vs ps e h3)
    | lst ds =>
      obtain ⟨ps, e, rfl⟩ := map_some h
      obtain ⟨a, vs, rfl, h2, h3⟩ := asL_of s (ds := ds) rfl r
      exact .lst h2 (mapO_of ih ds vs ps e h3)
    | scr ds =>
      obtain ⟨ps, e, rfl⟩ := map_some h
      obtain ⟨a, vs, rfl, h2, h3⟩ := asL_of s (ds := ds) rfl r
      exact .lst h2 (mapO_of ih ds vs ps e h3)
    | loc l =>
      simp only [toPy] at h
      cases e : S[l]? with
      | none => rw [e] at h; cases h
      | some o =>
        cases o with
        | none => rw [e] at h; cases h
        | some c =>
          cases c with
          | lst ds =>
            rw [e] at h
            obtain ⟨ps, e1, rfl⟩ := map_some h
            obtain ⟨a, vs, rfl, h2, h3⟩ := asL_of s (ds := ds) (by simp only [asL]; rw [e]) r
            exact .lst h2 (mapO_of ih ds vs ps e1 h3)
          | _ => rw [e] at h; cases h
    | _ => cases h
end
/-- the depth that is looked at -/
abbrev dpt : Nat := 12
def eqD (S : Store) (a b : D) : Option Bool := match toPy S dpt a, toPy S dpt b with
  | some p, some q => if SeqAt.shaped p && SeqAt.shaped q then some (PyData.eqv p q) else none
  | _, _ => none
def fEq : F2 := fun a b S => match eqD S a b with
  | some k => .ok (.bl k) S
  | none => .no
def fNe : F2 := fun a b S => match eqD S a b with
  | some k => .ok (.bl (!k)) S
  | none => .no
section
variable {K : PySem.W.Frag}
theorem eqD_of {w : Wd} {S : Store} {a b : D} {x y : V} {k : Bool} (s : SR K w S) (ra : Rep K w a x) (rb : Rep K w b y) (h : eqD S a b = some k) :
    ∃ p q, Dp K w.H x p ∧ Dp K w.H y q ∧ SeqAt.shaped p = true ∧ SeqAt.shaped q = true ∧ PyData.eqv p q = k := by
  unfold eqD at h
  cases e1 : toPy S dpt a with
  | none => rw [e1] at h; cases h
  | some p =>
    cases e2 : toPy S dpt b with
    | none => rw [e1, e2] at h; cases h
    | some q =>
      rw [e1, e2] at h
      cases e3 : (SeqAt.shaped p && SeqAt.shaped q) with
      | false => simp only [e3] at h; cases h
      | true =>
        simp only [e3] at h
        obtain ⟨k1, k2⟩ := Bool.and_eq_true_iff.mp e3
        exact ⟨p, q, toPy_of s _ _ _ _ e1 ra, toPy_of s _ _ _ _ e2 rb, k1, k2, Option.some.inj h⟩
theorem opl_eq : OpL K (rEqD K) fEq := fun W σ w S a b x y Q s ra rb h => by
  unfold fEq at h
  cases e : eqD S a b with
  | none => rw [e] at h; exact h.elim
  | some k =>
    rw [e] at h
    obtain ⟨p, q, h1, h2, h3, h4, h5⟩ := eqD_of s ra rb e
    exact ⟨p, q, h1, h2, h3, h4, by rw [h5]; exact post_at s h rfl⟩
theorem opl_ne : OpL K (rNeD K) fNe := fun W σ w S a b x y Q s ra rb h => by
  unfold fNe at h
  cases e : eqD S a b with
  | none => rw [e] at h; exact h.elim
  | some k =>
    rw [e] at h
    obtain ⟨p, q, h1, h2, h3, h4, h5⟩ := eqD_of s ra rb e
    exact ⟨p, q, h1, h2, h3, h4, by rw [h5]; exact post_at s h rfl⟩
/-! ### ints -/
def fI (C : Int → Int → Bool) (g : Int → Int → D) : F2 := fun a b S => match a, b with
  | .int i, .int j => if C i j then .ok (g i j) S else .no
  | _, _ => .no
theorem opl_I {C : Int → Int → Prop} {Cb : Int → Int → Bool} {g : Int → Int → V} {gD : Int → Int → D} (hc : ∀ i j, Cb i j = true → C i j) (hg : ∀ w i j, Rep K w (gD i j) (g i j)) : OpL K (rI C g) (fI Cb gD) := fun W σ w S a b x y Q s ra rb h => by
  cases a with
  | int i =>
    cases b with
    | int j =>
      cases (show x = _ from ra)
      cases (show y = _ from rb)
      simp only [fI] at h
      cases e : Cb i j with
      | false => simp only [e] at h; exact h.elim
      | true =>
        simp only [e] at h
        exact ⟨i, j, rfl, rfl, hc i j e, post_at s h (hg w i j)⟩
    | _ => exact h.elim
  | _ => exact h.elim
def fI0 (g : Int → Int → D) : F2 := fun a b S => match a, b with
  | .int i, .int j => .ok (g i j) S
  | _, _ => .no
theorem opl_I0 {g : Int → Int → V} {gD : Int → Int → D} (hg : ∀ w i j, Rep K w (gD i j) (g i j)) : OpL K (rI0 g) (fI0 gD) := fun W σ w S a b x y Q s ra rb h => by
  cases a with
  | int i =>
    cases b with
    | int j =>
      cases (show x = _ from ra)
      cases (show y = _ from rb)
      exact ⟨i, j, rfl, rfl, post_at s h (hg w i j)⟩
    | _ => exact h.elim
  | _ => exact h.elim
/-! ### + -/
def fAdd : F2 := fun a b S => match a, b with
  | .int i, .int j => .ok (.int (i + j)) S
  | .str x, .str y => if x.length + y.length ≤ sizeLine then .ok (.str (x ++ y)) S else .no
  | .tup xs, .tup ys => if xs.length + ys.length ≤ sizeLine then .ok (.tup (xs ++ ys)) S else .no
  | a, b => match asLT S a, asLT S b with
    | some xs, some ys => if xs.length + ys.length ≤ sizeLine then .ok (.lst (xs ++ ys)) S else .no
    | _, _ => .no
def rAddS : R2 := fun x y H Q => ∃ i j, x = .str i ∧ y = .str j ∧ i.length + j.length ≤ sizeLine ∧ Q (.str (i ++ j)) H
def rAdd (K : PySem.W.Frag) : R2 := rOr (rI0 fun i j => .int (i + j)) (rOr rAddS (rOr (rCatA K) rCat))
theorem op_addR {X : Cx} : OpR X (binaryOp .Add) (rAdd X.K) := op_add.or ((show OpR X (binaryOp .Add) rAddS from op_add_str).or (op_catA.or op_cat))
theorem opl_catL {W : WX} {σ : L2.St} {w : Wd} {S : Store} {a b : D} {x y : V} {Q : VK} {xs ys : List D} (s : SR K w S) (ra : Rep K w a x) (rb : Rep K w b y) (ha : asLT S a = some xs) (hb : asLT S b = some ys) (hz : xs.length + ys.length ≤ sizeLine)
    (h : Post K W σ w (.ok (.lst (xs ++ ys)) S) (fun d _ w' => ∀ v, Rep K w' d v → Q v w'.H)) : rCat x y w.H Q := by
  obtain ⟨p, vs, rfl, h1, h2⟩ := asLT_of s ha ra
  obtain ⟨q, us, rfl, k1, k2⟩ := asLT_of s hb rb
  refine ⟨p, q, vs, us, rfl, rfl, h1, k1, by rw [← h2.length, ← k2.length]; exact hz, fun l hl => ?_⟩
  refine post_fr s hl h ⟨l, vs ++ us, rfl, .inr rfl, upd_same, by rw [List.length_append, ← h2.length, ← k2.length]; exact hz, ?_⟩
  exact repL_le (le_fr s hl) _ _ (h2.append k2)
theorem opl_add : OpL K (rAdd K) fAdd := fun W σ w S a b x y Q s ra rb h => by
  have lists : ∀ {xs ys : List D}, asLT S a = some xs → asLT S b = some ys → Post K W σ w (if xs.length + ys.length ≤ sizeLine then .ok (.lst (xs ++ ys)) S else .no) (fun d _ w' => ∀ v, Rep K w' d v → Q v w'.H) → rAdd K x y w.H Q := fun {xs ys} ha hb h => by
    by_cases hz : xs.length + ys.length ≤ sizeLine
    · rw [if_pos hz] at h
      exact .inr (.inr (.inr (opl_catL s ra rb ha hb hz h)))
    · rw [if_neg hz] at h
      exact h.elim
  have fall : Post K W σ w (match asLT S a, asLT S b with
    | some xs, some ys => if xs.length + ys.length ≤ sizeLine then .ok (.lst (xs ++ ys)) S else .no
    | _, _ => .no) (fun d _ w' => ∀ v, Rep K w' d v → Q v w'.H) → rAdd K x y w.H Q := fun h => by
    cases e1 : asLT S a with
    | none => rw [e1] at h; exact h.elim
    | some xs =>
      cases e2 : asLT S b with
      | none => rw [e1, e2] at h; exact h.elim
      | some ys =>
        rw [e1, e2] at h
        exact lists e1 e2 h
  cases a with
  | int i =>
    cases b with
    | int j =>
      cases (show x = _ from ra)
      cases (show y = _ from rb)
      exact .inl ⟨i, j, rfl, rfl, post_at s h rfl⟩
    | _ => exact fall h
  | str z =>
    cases b with
    | str u =>
      cases (show x = _ from ra)
      cases (show y = _ from rb)
      simp only [fAdd] at h
      by_cases hz : z.length + u.length ≤ sizeLine
      · rw [if_pos hz] at h
        exact .inr (.inl ⟨z, u, rfl, rfl, hz, post_at s h rfl⟩)
      · rw [if_neg hz] at h
        exact h.elim
    | _ => exact fall h
  | tup xs =>
    cases b with
    | tup ys =>
      obtain ⟨p, vs, rfl, h1, z1, h2⟩ := ra
      obtain ⟨q, us, rfl, k1, z2, k2⟩ := rb
      simp only [fAdd] at h
      by_cases hz : xs.length + ys.length ≤ sizeLine
      · rw [if_pos hz] at h
        refine .inr (.inr (.inl ⟨p, q, vs, us, rfl, rfl, SqT.of h1, SqT.of k1, by rw [← h2.length, ← k2.length]; exact hz, fun e => ?_, fun e e' => ?_, fun _ _ l hl => ?_⟩))
        · have e1 : xs = [] := List.length_eq_zero_iff.mp (by rw [h2.length, e]; rfl)
          subst e1
          exact post_at s h ⟨q, us, rfl, k1, z2, k2⟩
        · have e1 : ys = [] := List.length_eq_zero_iff.mp (by rw [k2.length, e']; rfl)
          subst e1
          exact post_at s h ⟨p, vs, rfl, h1, z1, by rw [List.append_nil]; exact h2⟩
        · exact post_tp s hl h ⟨l, vs ++ us, rfl, upd_same, by rw [List.length_append, ← h2.length, ← k2.length]; exact hz, repL_le (le_tp s hl) _ _ (h2.append k2)⟩
      · rw [if_neg hz] at h
        exact h.elim
    | _ => exact fall h
  | _ => exact fall h
/-! ### * -/
def bMul (i j : Int) : Bool := (decide (-18446744073709551616 < i) && decide (i < 18446744073709551616)) || (decide (-18446744073709551616 < j) && decide (j < 18446744073709551616))
theorem bMul_ok {i j : Int} (h : bMul i j = true) : CMul i j := by
  unfold bMul at h
  simp only [Bool.or_eq_true, Bool.and_eq_true, decide_eq_true_eq] at h
  exact h
def fMul : F2 := fun a b S => match a, b with
  | .int i, .int j => if bMul i j then .ok (.int (i * j)) S else .no
  | a, .int k => match asLT S a with
    | some xs => if k < 4294967296 ∧ -4294967296 < k ∧ xs.length * k.toNat ≤ sizeLine then .ok (.lst (List.replicate k.toNat xs).flatten) S else .no
    | none => .no
  | _, _ => .no
def rMulR : R2 := rOr (rI CMul fun i j => .int (i * j)) rRep
theorem op_mulR {X : Cx} : OpR X (binaryOp .Mult) rMulR := op_mul.or op_rep
theorem RepL.rep {w : Wd} {ds : List D} {vs : List V} (h : RepL K w ds vs) : ∀ k : Nat, RepL K w (List.replicate k ds).flatten (List.replicate k vs).flatten
  | 0 => rfl
  | k + 1 => by
    rw [List.replicate_succ, List.replicate_succ, List.flatten_cons, List.flatten_cons]
    exact h.append (RepL.rep h k)
theorem opl_mul : OpL K rMulR fMul := fun W σ w S a b x y Q s ra rb h => by
  have lists : ∀ {k : Int}, y = .int k → Post K W σ w (match asLT S a with
    | some xs => if k < 4294967296 ∧ -4294967296 < k ∧ xs.length * k.toNat ≤ sizeLine then .ok (.lst (List.replicate k.toNat xs).flatten) S else .no
    | none => .no) (fun d _ w' => ∀ v, Rep K w' d v → Q v w'.H) → rMulR x y w.H Q := fun {k} ey h => by
    cases e1 : asLT S a with
    | none => rw [e1] at h; exact h.elim
    | some xs =>
      rw [e1] at h
      by_cases hz : k < 4294967296 ∧ -4294967296 < k ∧ xs.length * k.toNat ≤ sizeLine
      · simp only [if_pos hz] at h
        obtain ⟨p, vs, rfl, h1, h2⟩ := asLT_of s e1 ra
        refine .inr ⟨p, k, vs, rfl, ey, h1, by omega, by omega, by rw [← h2.length]; exact hz.2.2, fun l hl => ?_⟩
        refine post_fr s hl h ⟨l, _, rfl, .inr rfl, upd_same, ?_, repL_le (le_fr s hl) _ _ (h2.rep k.toNat)⟩
        have e := (h2.rep k.toNat).length
        rw [← e, List.length_flatten, List.map_replicate, List.sum_replicate_nat, Nat.mul_comm]
        exact hz.2.2
      · simp only [if_neg hz] at h
        exact h.elim
  cases b with
  | int j =>
    cases (show y = _ from rb)
    cases a with
    | int i =>
      cases (show x = _ from ra)
      simp only [fMul] at h
      cases e : bMul i j with
      | false => simp only [e] at h; exact h.elim
      | true =>
        simp only [e] at h
        exact .inl ⟨i, j, rfl, rfl, bMul_ok e, post_at s h rfl⟩
    | _ => exact lists rfl h
  | _ => cases a <;> exact h.elim
def bDiv (_ j : Int) : Bool := decide (0 < j) && decide (j < 18446744073709551616)
theorem bDiv_ok {i j : Int} (h : bDiv i j = true) : CDivW i j := by
  unfold bDiv at h
  simp only [Bool.and_eq_true, decide_eq_true_eq] at h
  exact wide_div (b := 64) h.1 (by omega) (by decide) (by decide)
def bPow (i j : Int) : Bool := decide (0 ≤ j) && (decide (j ≤ 1000000) && decide (i.natAbs < 18446744073709551616))
theorem bPow_ok {i j : Int} (h : bPow i j = true) : CPow i j := by
  unfold bPow at h
  simp only [Bool.and_eq_true, decide_eq_true_eq] at h
  exact h
def fSub : F2 := fI0 fun i j => .int (i - j)
def fDiv : F2 := fI bDiv fun i j => .int (i / j)
def fMod : F2 := fI (fun _ j => decide (0 < j)) fun i j => .int (i % j)
def fPow : F2 := fI bPow fun i j => .int (i ^ j.toNat)
def fShl : F2 := fI bPow fun i j => .int (i * 2 ^ j.toNat)
def fShr : F2 := fI (fun _ j => decide (0 ≤ j)) fun i j => .int (i / 2 ^ j.toNat)
def fAnd : F2 := fI0 fun i j => .int (Builtin.bitAnd i j)
def fOr : F2 := fI0 fun i j => .int (Builtin.bitOr i j)
def fXor : F2 := fI0 fun i j => .int (Builtin.bitXor i j)
/-! ### the operators of the text -/
structure BinOk (op : Operator) (f : F2) : Prop where
  ex : ∀ X : Cx, ∃ r, OpR X (binaryOp op) r ∧ OpL X.K r f
def binF : Operator → Option F2
  | .Add => some fAdd
  | .Sub => some fSub
  | .Mult => some fMul
  | .FloorDiv => some fDiv
  | .Mod => some fMod
  | .Pow => some fPow
  | .LShift => some fShl
  | .RShift => some fShr
  | .BitAnd => some fAnd
  | .BitOr => some fOr
  | .BitXor => some fXor
  | _ => none
theorem binF_ok {op : Operator} {f : F2} (h : binF op = some f) : BinOk op f := by
  cases op <;> cases h <;> refine ⟨fun X => ?_⟩
  · exact ⟨_, op_addR, opl_add⟩
  · exact ⟨_, op_sub, opl_I0 fun _ _ _ => rfl⟩
  · exact ⟨_, op_mulR, opl_mul⟩
  · exact ⟨_, op_mod, opl_I (fun _ _ h => of_decide_eq_true h) fun _ _ _ => rfl⟩
  · exact ⟨_, op_pow, opl_I (fun _ _ h => bPow_ok h) fun _ _ _ => rfl⟩
  · exact ⟨_, op_shl, opl_I (fun _ _ h => bPow_ok h) fun _ _ _ => rfl⟩
  · exact ⟨_, op_shr, opl_I (fun _ _ h => of_decide_eq_true h) fun _ _ _ => rfl⟩
  · exact ⟨_, op_or, opl_I0 fun _ _ _ => rfl⟩
  · exact ⟨_, op_xor, opl_I0 fun _ _ _ => rfl⟩
  · exact ⟨_, op_and, opl_I0 fun _ _ _ => rfl⟩
  · exact ⟨_, op_fdivW, opl_I (fun _ _ h => bDiv_ok h) fun _ _ _ => rfl⟩
end
end EV
/-! ## A4 -/
set_option Elab.async false
set_option linter.all false
set_option maxRecDepth 100000
set_option maxHeartbeats 2000000
/-! Part 4: comparisons, what dicts hold, subscripts, slices. -/
namespace EV
open PySem PySem.Spec
open PyProof.Rows hiding St
open L2
/-! ### ints, texts, tuples of ints compared -/
def toInt : D → Option Int
  | .int i => some i
  | _ => none
theorem mapO_int : ∀ {ds : List D} {ns : List Int}, mapO toInt ds = some ns → ds = ns.map D.int
  | [], ns, h => by cases h; rfl
  | d :: ds, ns, h => by
    simp only [mapO] at h
    cases e : toInt d with
    | none => rw [e] at h; cases h
    | some i =>
      cases e2 : mapO toInt ds with
      | none => rw [e, e2] at h; cases h
      | some ms =>
        rw [e, e2] at h
        cases h
        cases d <;> cases e
        rw [mapO_int e2]
        rfl
def asTI (d : D) : Option (List Int) := match asT d with
  | some ds => mapO toInt ds
  | none => none
def fCmp (gi : Int → Int → Bool) (gs : Str → Str → Bool) (gt : List Int → List Int → Option Bool) : F2 := fun a b S => match a, b with
  | .int i, .int j => .ok (.bl (gi i j)) S
  | .str x, .str y => .ok (.bl (gs x y)) S
  | a, b => match asTI a, asTI b with
    | some ns, some ms => match gt ns ms with
      | some k => .ok (.bl k) S
      | none => .no
    | _, _ => .no
def fLt : F2 := fCmp (fun i j => decide (i < j)) (fun i j => decide (i.cps.toList < j.cps.toList)) fun ns ms => some (HT.lexLt ns ms)
def fLe : F2 := fCmp (fun i j => decide (i ≤ j)) (fun i j => !decide (j.cps.toList < i.cps.toList)) fun ns ms =>
  some (Ob.lexAt (fun j => decide (ns.getD j 0 = ms.getD j 0)) (fun j => decide (ns.getD j 0 ≤ ms.getD j 0)) (decide (ns.length ≤ ms.length)) 0 (min ns.length ms.length))
def fGt : F2 := fCmp (fun i j => decide (j < i)) (fun i j => decide (j.cps.toList < i.cps.toList)) fun _ _ => none
def fGe : F2 := fCmp (fun i j => decide (j ≤ i)) (fun i j => !decide (i.cps.toList < j.cps.toList)) fun _ _ => none
def rS2 (g : Str → Str → Bool) : R2 := fun x y H Q => ∃ i j, x = .str i ∧ y = .str j ∧ Q (.bl (g i j)) H
def rT2 (K : PySem.W.Frag) (g : List Int → List Int → Option Bool) : R2 := fun x y H Q => ∃ (a b : Addr) (ns ms : List Int) (k : Bool), x = .ref a ∧ y = .ref b ∧ SqT K H a (ns.map V.int) ∧ SqT K H b (ms.map V.int) ∧ g ns ms = some k ∧ Q (.bl k) H
section
variable {K : PySem.W.Frag}
theorem asTI_of {w : Wd} {S : Store} {d : D} {ns : List Int} {v : V} (h : asTI d = some ns) (r : Rep K w d v) : ∃ a, v = .ref a ∧ SqT K w.H a (ns.map V.int) := by
  unfold asTI at h
  cases e : asT d with
  | none => rw [e] at h; cases h
  | some ds =>
    rw [e] at h
    obtain ⟨a, vs, h1, h2, h3⟩ := asT_of e r
    have q := mapO_int h
    subst q
    rw [RepL.ints h3] at h2
    exact ⟨a, h1, h2⟩
theorem opl_cmp {gi : Int → Int → Bool} {gs : Str → Str → Bool} {gt : List Int → List Int → Option Bool} : OpL K (rOr (rI0 fun i j => .bl (gi i j)) (rOr (rS2 gs) (rT2 K gt))) (fCmp gi gs gt) := fun W σ w S a b x y Q s ra rb h => by
  have fall : Post K W σ w (match asTI a, asTI b with
    | some ns, some ms => match gt ns ms with
      | some k => .ok (.bl k) S
      | none => .no
    | _, _ => .no) (fun d _ w' => ∀ v, Rep K w' d v → Q v w'.H) → rOr (rI0 fun i j => .bl (gi i j)) (rOr (rS2 gs) (rT2 K gt)) x y w.H Q := fun h => by
    cases e1 : asTI a with
    | none => rw [e1] at h; exact h.elim
    | some ns =>
      cases e2 : asTI b with
      | none => rw [e1, e2] at h; exact h.elim
      | some ms =>
        rw [e1, e2] at h
        cases e3 : gt ns ms with
        | none => simp only [e3] at h; exact h.elim
        | some k =>
          simp only [e3] at h
          obtain ⟨p, h1, h2⟩ := asTI_of (S := S) e1 ra
          obtain ⟨q, k1, k2⟩ := asTI_of (S := S) e2 rb
          exact .inr (.inr ⟨p, q, ns, ms, k, h1, k1, h2, k2, e3, post_at s h rfl⟩)
  cases a with
  | int i =>
    cases b with
    | int j =>
      cases (show x = _ from ra)
      cases (show y = _ from rb)
      exact .inl ⟨i, j, rfl, rfl, post_at s h rfl⟩
    | _ => exact fall h
  | str i =>
    cases b with
    | str j =>
      cases (show x = _ from ra)
      cases (show y = _ from rb)
      exact .inr (.inl ⟨i, j, rfl, rfl, post_at s h rfl⟩)
    | _ => exact fall h
  | _ => exact fall h
theorem op_noT {X : Cx} {f : Value → Value → Sem Value} : OpR X f (rT2 X.K fun _ _ => none) := fun pins s σ H x y v u Q I rx ry h => by
  obtain ⟨a, b, ns, ms, k, _, _, _, _, z, _⟩ := h
  cases z
theorem op_ltT2 {X : Cx} (hu : X.A.units < cLine) : OpR X (compareOp .Lt) (rT2 X.K fun ns ms => some (HT.lexLt ns ms)) := fun pins s σ H x y v u Q I rx ry h => by
  obtain ⟨a, b, ns, ms, k, e1, e2, h1, h2, z, q⟩ := h
  cases z
  exact op_ltT hu pins s σ H x y v u Q I rx ry ⟨a, b, ns, ms, e1, e2, h1, h2, q⟩
theorem op_leT2 {X : Cx} (hu : X.A.units < cLine) : OpR X (compareOp .LtE) (rT2 X.K fun ns ms => some (Ob.lexAt (fun j => decide (ns.getD j 0 = ms.getD j 0)) (fun j => decide (ns.getD j 0 ≤ ms.getD j 0)) (decide (ns.length ≤ ms.length)) 0 (min ns.length ms.length))) := fun pins s σ H x y v u Q I rx ry h => by
  obtain ⟨a, b, ns, ms, k, e1, e2, h1, h2, z, q⟩ := h
  cases z
  exact op_leT hu pins s σ H x y v u Q I rx ry ⟨a, b, ns, ms, e1, e2, h1, h2, q⟩
end
/-! ### what a dict holds -/
def keyFl : D → Option Key
  | .int i => some (.inl i)
  | .str x => some (.inr x)
  | _ => none
def keyOf (t : Bool) : D → Option DKey
  | .tup ds => if t then (mapO keyFl ds).map .inr else none
  | d => if t then none else (keyFl d).map .inl
def dFind (kvs : List (DKey × D)) (k : DKey) : Option D := (kvs.find? fun p => decide (p.1 = k)).map (·.2)
def dPut (kvs : List (DKey × D)) (k : DKey) (d : D) : List (DKey × D) :=
  if (kvs.any fun p => decide (p.1 = k)) = true then kvs.map (fun p => if p.1 = k then (p.1, d) else p) else kvs ++ [(k, d)]
def asD (S : Store) : D → Option (Bool × List (DKey × D))
  | .dct t kvs => some (t, kvs)
  | .loc n => match S[n]? with
    | some (some (.dct t kvs)) => some (t, kvs)
    | _ => none
  | _ => none
/-- a dict at a, of the kind t -/
def DicR (K : PySem.W.Frag) (w : Wd) (a : Addr) (t : Bool) (kvs : List (DKey × D)) : Prop := match t with
  | false => ∃ ks, w.H a = some (.dK ks) ∧ RepD K w kvs ks
  | true => ∃ ks, w.H a = some (.dT ks) ∧ RepT K w kvs ks
section
variable {K : PySem.W.Frag} {w : Wd} {S : Store}
theorem asD_of (s : SR K w S) {d : D} {t : Bool} {kvs : List (DKey × D)} {v : V} (h : asD S d = some (t, kvs)) (r : Rep K w d v) : ∃ a, v = .ref a ∧ DicR K w a t kvs := by
  cases d with
  | dct t' kvs' =>
    cases h
    cases t with
    | false =>
      obtain ⟨a, ks, h1, _, h2, h3⟩ := r
      exact ⟨a, h1, ks, h2, h3⟩
    | true =>
      obtain ⟨a, ks, h1, _, h2, h3⟩ := r
      exact ⟨a, h1, ks, h2, h3⟩
  | loc n =>
    obtain ⟨a, h1, h2⟩ := r
    simp only [asD] at h
    cases e : S[n]? with
    | none => rw [e] at h; cases h
    | some c =>
      rw [e] at h
      cases c with
      | none => cases h
      | some c =>
        cases c with
        | dct t' kvs' =>
          cases h
          obtain ⟨b, k1, k2, k3⟩ := s.cell n _ e
          rw [h2] at k1
          cases k1
          refine ⟨a, h1, ?_⟩
          cases t with
          | false => exact k3
          | true => exact k3
        | _ => cases h
  | _ => cases h
theorem keyFl_of {d : D} {k : Key} {v : V} (h : keyFl d = some k) (r : Rep K w d v) : v = kV k := by
  cases d with
  | int i => cases h; exact r
  | str x => cases h; exact r
  | _ => cases h
theorem mapO_keys : ∀ {ds : List D} {ks : List Key} {vs : List V}, mapO keyFl ds = some ks → RepL K w ds vs → vs = ks.map kV
  | [], ks, vs, h, r => by cases h; exact r
  | d :: ds, ks, vs, h, r => by
    obtain ⟨v, vs', rfl, h1, h2⟩ := r
    simp only [mapO] at h
    cases e : keyFl d with
    | none => rw [e] at h; cases h
    | some k =>
      cases e2 : mapO keyFl ds with
      | none => rw [e, e2] at h; cases h
      | some ks' =>
        rw [e, e2] at h
        cases h
        rw [keyFl_of e h1, mapO_keys e2 h2]
        rfl
theorem keyOf_k {d : D} {k : DKey} {v : V} (h : keyOf false d = some k) (r : Rep K w d v) : ∃ kk, k = .inl kk ∧ v = kV kk := by
  have key : (keyFl d).map Sum.inl = some k → ∃ kk, k = Sum.inl kk ∧ v = kV kk := fun h => by
    obtain ⟨kk, e, rfl⟩ := map_some h
    exact ⟨kk, rfl, keyFl_of e r⟩
  cases d with
  | tup ds => cases h
  | _ => exact key h
theorem keyOf_t {d : D} {k : DKey} {v : V} (h : keyOf true d = some k) (r : Rep K w d v) : ∃ kk b, k = .inr kk ∧ v = .ref b ∧ w.H b = some (.tup (kk.map kV)) := by
  cases d with
  | tup ds =>
    obtain ⟨b, vs, rfl, h2, _, h3⟩ := r
    obtain ⟨kk, e, rfl⟩ := map_some (show (mapO keyFl ds).map .inr = some k from h)
    rw [mapO_keys e h3] at h2
    exact ⟨kk, b, rfl, rfl, h2⟩
  | _ => cases h
theorem repD_find : ∀ {kvs : List (DKey × D)} {ks : List (Key × V)} {k : Key}, RepD K w kvs ks → (∀ d, dFind kvs (.inl k) = some d → ∃ v, valV ks k = some v ∧ Rep K w d v) ∧ (dFind kvs (.inl k) = none → valV ks k = none)
  | [], ks, k, h => by cases (show ks = _ from h); exact ⟨fun d z => (nomatch z), fun _ => rfl⟩
  | (k', d') :: r, ks, k, h => by
    obtain ⟨kk, v, ks', rfl, rfl, h1, h2⟩ := h
    have ih := repD_find (k := k) h2
    by_cases e : kk = k
    · subst e
      rw [show dFind ((Sum.inl kk, d') :: r) (.inl kk) = some d' by simp [dFind, List.find?_cons], valV_pos (p := (kk, v)) rfl]
      exact ⟨fun d z => ⟨v, rfl, by cases z; exact h1⟩, fun z => nomatch z⟩
    · rw [show dFind ((Sum.inl kk, d') :: r) (.inl k) = dFind r (.inl k) by simp [dFind, List.find?_cons, e], valV_neg (p := (kk, v)) e]
      exact ih
theorem repT_find : ∀ {kvs : List (DKey × D)} {ks : List (List Key × V)} {k : List Key}, RepT K w kvs ks → (∀ d, dFind kvs (.inr k) = some d → ∃ v, valV ks k = some v ∧ Rep K w d v) ∧ (dFind kvs (.inr k) = none → valV ks k = none)
  | [], ks, k, h => by cases (show ks = _ from h); exact ⟨fun d z => (nomatch z), fun _ => rfl⟩
  | (k', d') :: r, ks, k, h => by
    obtain ⟨kk, v, ks', rfl, rfl, h1, h2⟩ := h
    have ih := repT_find (k := k) h2
    by_cases e : kk = k
    · subst e
      rw [show dFind ((Sum.inr kk, d') :: r) (.inr kk) = some d' by simp [dFind, List.find?_cons], valV_pos (p := (kk, v)) rfl]
      exact ⟨fun d z => ⟨v, rfl, by cases z; exact h1⟩, fun z => nomatch z⟩
    · rw [show dFind ((Sum.inr kk, d') :: r) (.inr k) = dFind r (.inr k) by simp [dFind, List.find?_cons, e], valV_neg (p := (kk, v)) e]
      exact ih
/-- a look into a dict -/
theorem dget_of (s : SR K w S) {d e : D} {t : Bool} {kvs : List (DKey × D)} {k : DKey} {x y : V} (h : asD S d = some (t, kvs)) (hk : keyOf t e = some k) (r : Rep K w d x) (re : Rep K w e y) :
    ∃ a, x = .ref a ∧ (∀ d', dFind kvs k = some d' → ∃ v, DGet w.H a y (some v) ∧ Rep K w d' v) ∧ (dFind kvs k = none → DGet w.H a y none) := by
  obtain ⟨a, rfl, hd⟩ := asD_of s h r
  cases t with
  | false =>
    obtain ⟨ks, h1, h2⟩ := hd
    obtain ⟨kk, rfl, rfl⟩ := keyOf_k hk re
    obtain ⟨q1, q2⟩ := repD_find (k := kk) h2
    refine ⟨a, rfl, fun d' z => ?_, fun z => ?_⟩
    · obtain ⟨v, e1, e2⟩ := q1 d' z
      exact ⟨v, by rw [← e1]; exact DGet.k h1, e2⟩
    · rw [← q2 z]
      exact DGet.k h1
  | true =>
    obtain ⟨ks, h1, h2⟩ := hd
    obtain ⟨kk, b, rfl, rfl, hb⟩ := keyOf_t hk re
    obtain ⟨q1, q2⟩ := repT_find (k := kk) h2
    refine ⟨a, rfl, fun d' z => ?_, fun z => ?_⟩
    · obtain ⟨v, e1, e2⟩ := q1 d' z
      exact ⟨v, by rw [← e1]; exact DGet.t h1 hb, e2⟩
    · rw [← q2 z]
      exact DGet.t h1 hb
end
/-! ### in, not in -/
def flatD : D → Bool
  | .non => true
  | .bl _ => true
  | .int _ => true
  | .str _ => true
  | _ => false
def eqFl : D → D → Bool
  | .non, .non => true
  | .bl a, .bl b => a == b
  | .bl a, .int b => (if a then 1 else 0) == b
  | .int a, .bl b => a == (if b then 1 else 0)
  | .int a, .int b => a == b
  | .str a, .str b => a == b
  | _, _ => false
def inD (S : Store) (a b : D) : Option Bool := match asD S b with
  | some (t, kvs) => (keyOf t a).map fun k => (dFind kvs k).isSome
  | none => match asQ S b with
    | some ds => if flatD a && ds.all flatD then some (ds.any fun y => eqFl y a) else match toPy S dpt a, asL S b, mapO (toPy S dpt) ds with
      | some p, some _, some ps => if SeqAt.shaped p && SeqAt.shaped (.list ps) then some (ps.any fun z => PyData.eqv z p) else none
      | _, _, _ => none
    | none => match a, b with
      | .str x, .str y => some (!(Builtin.Str.occurrences y x 0 y.length 1).isEmpty)
      | _, _ => none
def fIn : F2 := fun a b S => match inD S a b with
  | some k => .ok (.bl k) S
  | none => .no
def fNotIn : F2 := fun a b S => match inD S a b with
  | some k => .ok (.bl (!k)) S
  | none => .no
/-- the four ways, by the answer -/
inductive InR (K : PySem.W.Frag) (x y : V) (H : Hp) (k : Bool) : Prop
  | dic (a : Addr) (o : Option V) (e : y = .ref a) (h : DGet H a x o) (hk : k = o.isSome)
  | flat (p : Addr) (xs : List V) (e : y = .ref p) (h : SqL K H p xs ∨ SqT K H p xs) (f : flatV x = true) (g : xs.all flatV = true) (hk : k = inV x xs)
  | deep (d : PyData) (ds : List PyData) (h1 : Dp K H x d) (h2 : Dp K H y (.list ds)) (s1 : SeqAt.shaped d = true) (s2 : SeqAt.shaped (.list ds) = true) (hk : k = ds.any fun z => PyData.eqv z d)
  | txt (i j : Str) (e1 : x = .str i) (e2 : y = .str j) (hk : k = !(Builtin.Str.occurrences j i 0 j.length 1).isEmpty)
def rInA (K : PySem.W.Frag) (neg : Bool) : R2 := fun x y H Q => ∃ k, InR K x y H k ∧ Q (.bl (if neg then !k else k)) H
section
variable {K : PySem.W.Frag} {w : Wd} {S : Store}
theorem flat_of {d : D} {v : V} (f : flatD d = true) (r : Rep K w d v) : flatV v = true := by
  cases d with
  | non => cases (show v = _ from r); rfl
  | bl _ => cases (show v = _ from r); rfl
  | int _ => cases (show v = _ from r); rfl
  | str _ => cases (show v = _ from r); rfl
  | _ => cases f
theorem eqFl_of {a b : D} {x y : V} (f : flatD a = true) (g : flatD b = true) (r : Rep K w a x) (q : Rep K w b y) : eqV x y = eqFl a b := by
  cases a <;> first | (cases f; done) | (cases b <;> first | (cases g; done) | (cases (show x = _ from r); cases (show y = _ from q); rfl))
theorem flatAll_of : ∀ {ds : List D} {vs : List V}, ds.all flatD = true → RepL K w ds vs → vs.all flatV = true
  | [], _, _, h => by cases (show _ = _ from h); rfl
  | d :: ds, _, f, h => by
    obtain ⟨v, vs', rfl, h1, h2⟩ := h
    rw [List.all_cons, Bool.and_eq_true] at f
    rw [List.all_cons, flat_of f.1 h1, flatAll_of f.2 h2]
    rfl
theorem any_of {a : D} {x : V} (f : flatD a = true) (r : Rep K w a x) : ∀ {ds : List D} {vs : List V}, ds.all flatD = true → RepL K w ds vs → inV x vs = ds.any fun y => eqFl y a
  | [], _, _, h => by cases (show _ = _ from h); rfl
  | d :: ds, _, g, h => by
    obtain ⟨v, vs', rfl, h1, h2⟩ := h
    rw [List.all_cons, Bool.and_eq_true] at g
    have ih := any_of f r g.2 h2
    unfold inV at ih ⊢
    rw [List.any_cons, List.any_cons, ih, eqFl_of g.1 f h1 r]
theorem inD_of (s : SR K w S) {a b : D} {x y : V} {k : Bool} (ra : Rep K w a x) (rb : Rep K w b y) (h : inD S a b = some k) : InR K x y w.H k := by
  unfold inD at h
  cases e1 : asD S b with
  | some p =>
    obtain ⟨t, kvs⟩ := p
    rw [e1] at h
    obtain ⟨kk, e2, rfl⟩ := map_some h
    obtain ⟨ad, q1, q2, q3⟩ := dget_of s e1 e2 rb ra
    cases e3 : dFind kvs kk with
    | none => exact .dic ad none q1 (q3 e3) rfl
    | some d =>
      obtain ⟨v, z, _⟩ := q2 d e3
      exact .dic ad (some v) q1 z rfl
  | none =>
    rw [e1] at h
    cases e2 : asQ S b with
    | some ds =>
      simp only [e2] at h
      cases e3 : (flatD a && ds.all flatD) with
      | true =>
        simp only [e3, if_true] at h
        obtain ⟨f, g⟩ := Bool.and_eq_true_iff.mp e3
        obtain ⟨p, vs, q1, q2, q3⟩ := asQ_of s e2 rb
        refine .flat p vs q1 q2 (flat_of f ra) (flatAll_of g q3) ?_
        rw [any_of f ra g q3]
        exact (Option.some.inj h).symm
      | false =>
        simp only [e3, Bool.false_eq_true, if_false] at h
        cases e4 : toPy S dpt a with
        | none => rw [e4] at h; cases h
        | some p =>
          cases e5 : asL S b with
          | none => rw [e4, e5] at h; cases h
          | some ds' =>
            cases e6 : mapO (toPy S dpt) ds with
            | none => rw [e4, e5, e6] at h; cases h
            | some ps =>
              rw [e4, e5, e6] at h
              cases e7 : (SeqAt.shaped p && SeqAt.shaped (.list ps)) with
              | false => simp only [e7] at h; cases h
              | true =>
                simp only [e7, if_true] at h
                obtain ⟨k1, k2⟩ := Bool.and_eq_true_iff.mp e7
                have el : ds' = ds := by
                  cases b with
                  | tup _ => cases e5
                  | ktup _ => cases e5
                  | _ => exact Option.some.inj (e5.symm.trans e2)
                subst el
                obtain ⟨ad, vs, q1, q2, q3⟩ := asL_of s e5 rb
                subst q1
                exact .deep p ps (toPy_of s _ _ _ _ e4 ra) (.lst q2 (mapO_of (toPy_of s _) _ _ _ e6 q3)) k1 k2 (Option.some.inj h).symm
    | none =>
      simp only [e2] at h
      cases a with
      | str i =>
        cases b with
        | str j =>
          cases (show x = _ from ra)
          cases (show y = _ from rb)
          exact .txt i j rfl rfl (Option.some.inj h).symm
        | _ => cases h
      | _ => cases h
theorem opl_in : OpL K (rInA K false) fIn := fun W σ w S a b x y Q s ra rb h => by
  unfold fIn at h
  cases e : inD S a b with
  | none => rw [e] at h; exact h.elim
  | some k =>
    rw [e] at h
    exact ⟨k, inD_of s ra rb e, post_at s h rfl⟩
theorem opl_notIn : OpL K (rInA K true) fNotIn := fun W σ w S a b x y Q s ra rb h => by
  unfold fNotIn at h
  cases e : inD S a b with
  | none => rw [e] at h; exact h.elim
  | some k =>
    rw [e] at h
    exact ⟨k, inD_of s ra rb e, post_at s h rfl⟩
theorem op_inA {X : Cx} (hu : X.A.units + 65 < cLine) : OpR X (compareOp .In) (rInA X.K false) := fun pins s σ H x y v u Q I rx ry h => by
  obtain ⟨k, h, q⟩ := h
  have q' : Q (.bl k) H := q
  cases h with
  | dic a o e h hk =>
    subst e
    cases ry
    exact d_in (by omega) I h rx fun s3 I3 => ⟨.bl o.isSome, H, I3, rfl, by rw [← hk]; exact q'⟩
  | flat p xs e h f g hk =>
    refine op_in_seq pins s σ H x y v u Q I rx ry ⟨p, xs, e, h, f, g, ?_⟩
    rw [← hk]
    exact q'
  | deep d ds h1 h2 s1 s2 hk =>
    refine op_inD hu pins s σ H x y v u Q I rx ry ⟨d, ds, h1, h2, s1, s2, ?_⟩
    rw [← hk]
    exact q'
  | txt i j e1 e2 hk =>
    refine op_in_str pins s σ H x y v u Q I rx ry ⟨i, j, e1, e2, ?_⟩
    rw [← hk]
    exact q'
theorem op_notInA {X : Cx} (hu : X.A.units + 65 < cLine) : OpR X (compareOp .NotIn) (rInA X.K true) := fun pins s σ H x y v u Q I rx ry h => by
  obtain ⟨k, h, q⟩ := h
  have q' : Q (.bl (!k)) H := q
  cases h with
  | dic a o e h hk =>
    subst e
    cases ry
    exact d_notIn (by omega) I h rx fun s3 I3 => ⟨.bl (!o.isSome), H, I3, rfl, by rw [← hk]; exact q'⟩
  | flat p xs e h f g hk =>
    refine op_notIn_seq pins s σ H x y v u Q I rx ry ⟨p, xs, e, h, f, g, ?_⟩
    rw [← hk]
    exact q'
  | deep d ds h1 h2 s1 s2 hk =>
    refine op_notInD hu pins s σ H x y v u Q I rx ry ⟨d, ds, h1, h2, s1, s2, ?_⟩
    rw [← hk]
    exact q'
  | txt i j e1 e2 hk =>
    refine op_notin_str pins s σ H x y v u Q I rx ry ⟨i, j, e1, e2, ?_⟩
    rw [← hk]
    exact q'
end
/-! ### is None -/
def isN : D → Bool
  | .non => true
  | _ => false
def fIs : F2 := fun a b S => match b with
  | .non => .ok (.bl (isN a)) S
  | _ => .no
def fIsNot : F2 := fun a b S => match b with
  | .non => .ok (.bl (!isN a)) S
  | _ => .no
def rIsNn : R2 := fun x y H Q => y = .non ∧ Q (.bl (decide (x = .non))) H
def rNotNn : R2 := fun x y H Q => y = .non ∧ Q (.bl (!decide (x = .non))) H
section
variable {K : PySem.W.Frag}
theorem isN_of {w : Wd} {a : D} {x : V} (r : Rep K w a x) : decide (x = .non) = isN a := by
  cases a with
  | non => cases (show x = _ from r); rfl
  | bl _ => cases (show x = _ from r); rfl
  | int _ => cases (show x = _ from r); rfl
  | str _ => cases (show x = _ from r); rfl
  | ty _ => cases (show x = _ from r); rfl
  | cls _ => cases (show x = _ from r); rfl
  | tup _ => obtain ⟨_, _, rfl, _⟩ := r; rfl
  | ktup _ => obtain ⟨_, _, rfl, _⟩ := r; rfl
  | lst _ => obtain ⟨_, _, rfl, _⟩ := r; rfl
  | scr _ => obtain ⟨_, _, rfl, _⟩ := r; rfl
  | dct t _ => cases t <;> (obtain ⟨_, _, rfl, _⟩ := r; rfl)
  | loc _ => obtain ⟨_, rfl, _⟩ := r; rfl
  | ins _ _ => obtain ⟨_, _, _, rfl, _⟩ := r; rfl
  | exn _ _ => exact r.elim
theorem opl_is : OpL K rIsNn fIs := fun W σ w S a b x y Q s ra rb h => by
  cases b with
  | non => exact ⟨rb, by rw [isN_of ra]; exact post_at s h rfl⟩
  | _ => exact h.elim
theorem opl_isNot : OpL K rNotNn fIsNot := fun W σ w S a b x y Q s ra rb h => by
  cases b with
  | non => exact ⟨rb, by rw [isN_of ra]; exact post_at s h rfl⟩
  | _ => exact h.elim
end
def cmpF : CmpOp → F2
  | .Eq => fEq
  | .NotEq => fNe
  | .Lt => fLt
  | .LtE => fLe
  | .Gt => fGt
  | .GtE => fGe
  | .Is => fIs
  | .IsNot => fIsNot
  | .In => fIn
  | .NotIn => fNotIn
theorem cmpF_ok {X : Cx} (hu : X.A.units + 65 < cLine) (op : CmpOp) : ∃ r, OpR X (compareOp op) r ∧ OpL X.K r (cmpF op) := by
  have h0 : X.A.units < cLine := by omega
  cases op
  · exact ⟨_, op_eqD (by omega), opl_eq⟩
  · exact ⟨_, op_neD (by omega), opl_ne⟩
  · exact ⟨_, op_lt.or ((show OpR X (compareOp .Lt) (rS2 _) from op_lt_str).or (op_ltT2 h0)), opl_cmp⟩
  · exact ⟨_, op_le.or ((show OpR X (compareOp .LtE) (rS2 _) from op_le_str).or (op_leT2 h0)), opl_cmp⟩
  · exact ⟨_, op_gt.or ((show OpR X (compareOp .Gt) (rS2 _) from op_gt_str).or op_noT), opl_cmp⟩
  · exact ⟨_, op_ge.or ((show OpR X (compareOp .GtE) (rS2 _) from op_ge_str).or op_noT), opl_cmp⟩
  · exact ⟨rIsNn, op_isN, opl_is⟩
  · exact ⟨rNotNn, op_notN, opl_isNot⟩
  · exact ⟨_, op_inA hu, opl_in⟩
  · exact ⟨_, op_notInA hu, opl_notIn⟩
/-! ### subscripts -/
def fIx : F2 := fun a b S => match asD S a with
  | some (t, kvs) => match keyOf t b with
    | some k => match dFind kvs k with
      | some d => .ok d S
      | none => .no
    | none => .no
  | none => match b with
    | .int i => match asQ S a with
      | some ds => match atI ds i with
        | some d => .ok d S
        | none => .no
      | none => match a with
        | .str z => if z.length ≤ sizeLine then match atI z.cps.toList i with
          | some c => .ok (.str ⟨#[c]⟩) S
          | none => .no else .no
        | _ => .no
    | _ => .no
def rIxD : R2 := fun x y H Q => ∃ a v, x = .ref a ∧ DGet H a y (some v) ∧ Q v H
theorem ix_dict {X : Cx} (hu : X.A.units + 1 < cLine) : IxR X rIxD := fun value slice pins s σ H x y v u Q I rx ry h hs => by
  obtain ⟨a, vv, rfl, g, q⟩ := h
  cases rx
  have hT := dict_typeIs I g
  unfold subscriptTail
  refine wpAny_bind ?_
  rw [getitemInPython_of_ne hT.not_modules]
  refine wpAny_bind (wpAny_specialOf hT PySem.F.slot_dict_getitem.lookup ?_)
  have fin : wpAny (model X.prog X.w) X.A (subscripted slice false (.ref a) u) (fun r s₃ => wpAny (model X.prog X.w) X.A (letTemporaryGo value (.ref a) r >>= fun _ => pure r) (EP X pins σ Q) X.xe s₃) X.xe s := by
    rw [hs]
    exact wpAny_operating (d_getItem hu I g ry fun w' s3 I3 rw' => wpAny_bind (wpAny_letTemporaryGo (wpAny_pure ⟨vv, H, I3, rw', q⟩)))
  first
    | exact wpAny_pure (wpAny_bind fin)
    | exact wpAny_bind (wpAny_pure (wpAny_bind fin))
    | exact wpAny_bind fin
def rIxA (K : PySem.W.Frag) : R2 := fun x y H Q => rIxD x y H Q ∨ rIx K x y H Q
theorem ix_any {X : Cx} (hu : X.A.units + 1 < cLine) : IxR X (rIxA X.K) := (ix_dict hu).or ix_seq
theorem atI_rep {K : PySem.W.Frag} {w : Wd} {ds : List D} {vs : List V} {i : Int} {d : D} (r : RepL K w ds vs) (h : atI ds i = some d) : ∃ v, atI vs i = some v ∧ Rep K w d v := by
  unfold atI at h ⊢
  rw [← r.length]
  cases e : ixN ds.length i with
  | none => rw [e] at h; cases h
  | some j =>
    rw [e] at h
    exact r.get h
theorem opl_ix {K : PySem.W.Frag} : OpL K (rIxA K) fIx := fun W σ w S a b x y Q s ra rb h => by
  unfold fIx at h
  cases e1 : asD S a with
  | some p =>
    obtain ⟨t, kvs⟩ := p
    simp only [e1] at h
    cases e2 : keyOf t b with
    | none => simp only [e2] at h; exact h.elim
    | some k =>
      simp only [e2] at h
      cases e3 : dFind kvs k with
      | none => simp only [e3] at h; exact h.elim
      | some d =>
        simp only [e3] at h
        obtain ⟨ad, q1, q2, _⟩ := dget_of s e1 e2 ra rb
        obtain ⟨v, z, z2⟩ := q2 d e3
        exact .inl ⟨ad, v, q1, z, post_at s h z2⟩
  | none =>
    simp only [e1] at h
    cases b with
    | int i =>
      cases (show y = _ from rb)
      simp only at h
      cases e2 : asQ S a with
      | some ds =>
        simp only [e2] at h
        cases e3 : atI ds i with
        | none => simp only [e3] at h; exact h.elim
        | some d =>
          simp only [e3] at h
          obtain ⟨p, vs, rfl, q2, q3⟩ := asQ_of s e2 ra
          obtain ⟨v, z, z2⟩ := atI_rep q3 e3
          rcases q2 with q2 | q2
          · exact .inr (.inl ⟨p, vs, i, v, rfl, rfl, q2, z, post_at s h z2⟩)
          · exact .inr (.inr (.inl ⟨p, vs, i, v, rfl, rfl, q2, z, post_at s h z2⟩))
      | none =>
        simp only [e2] at h
        cases a with
        | str z =>
          cases (show x = _ from ra)
          simp only at h
          by_cases hz : z.length ≤ sizeLine
          · simp only [if_pos hz] at h
            cases e3 : atI z.cps.toList i with
            | none => simp only [e3] at h; exact h.elim
            | some c =>
              simp only [e3] at h
              exact .inr (.inr (.inr ⟨z, i, c, rfl, rfl, hz, e3, post_at s h rfl⟩))
          · simp only [if_neg hz] at h
            exact h.elim
        | _ => exact h.elim
    | _ => exact h.elim
/-! ### slices -/
def cutD {α : Type} (xs : List α) (lo hi : Option Int) : List α := (xs.drop (HT.sIx xs.length 0 lo)).take (HT.sIx xs.length xs.length hi - HT.sIx xs.length 0 lo)
theorem cutV_le {vs : List V} (lo hi : Option Int) (h : vs.length ≤ sizeLine) : (cutV vs lo hi).length ≤ sizeLine := Nat.le_trans (cutV_length vs lo hi) h
theorem RepL.cut {K : PySem.W.Frag} {w : Wd} {ds : List D} {vs : List V} (h : RepL K w ds vs) (lo hi : Option Int) : RepL K w (cutD ds lo hi) (cutV vs lo hi) := by
  unfold cutD cutV
  rw [← h.length]
  exact (h.drop _).take _
def fSl (a : D) (lo hi : Option Int) (S : Store) : R D := match a with
  | .str z => if z.length ≤ sizeLine then .ok (.str (cutS z lo hi)) S else .no
  | a => match asT a with
    | some ds => if HT.sIx ds.length 0 lo = 0 ∧ HT.sIx ds.length ds.length hi = ds.length then .ok a S else .ok (.tup (cutD ds lo hi)) S
    | none => match asL S a with
      | some ds => .ok (.lst (cutD ds lo hi)) S
      | none => .no
abbrev rSlD (K : PySem.W.Frag) : V → Option Int → Option Int → Hp → VK → Prop := fun x lo hi H Q => rSlS x lo hi H Q ∨ (fun x lo hi H Q => rSlA K x lo hi H Q ∨ rSlL K x lo hi H Q) x lo hi H Q
theorem sl_any {X : Cx} : SlR X (rSlD X.K) := sl_str.or (sl_tupA.or sl_list)
theorem sll {K : PySem.W.Frag} {W : WX} {σ : L2.St} {w : Wd} {S : Store} {a : D} {x : V} {lo hi : Option Int} {Q : VK} (s : SR K w S) (ra : Rep K w a x)
    (h : Post K W σ w (fSl a lo hi S) (fun d _ w' => ∀ v, Rep K w' d v → Q v w'.H)) : rSlD K x lo hi w.H Q := by
  have fall : (∀ z, a ≠ .str z) → Post K W σ w (match asT a with
    | some ds => if HT.sIx ds.length 0 lo = 0 ∧ HT.sIx ds.length ds.length hi = ds.length then .ok a S else .ok (.tup (cutD ds lo hi)) S
    | none => match asL S a with
      | some ds => .ok (.lst (cutD ds lo hi)) S
      | none => .no) (fun d _ w' => ∀ v, Rep K w' d v → Q v w'.H) → rSlD K x lo hi w.H Q := fun _ h => by
    cases e1 : asT a with
    | some ds =>
      simp only [e1] at h
      obtain ⟨p, vs, rfl, q2, q3, qz⟩ := asT_ofz e1 ra
      refine .inr (.inl ⟨p, vs, rfl, q2, fun c => ?_, fun c l hl => ?_⟩)
      · rw [← q3.length] at c
        rw [if_pos c] at h
        exact post_at s h ra
      · rw [← q3.length] at c
        rw [if_neg c] at h
        exact post_tp s hl h ⟨l, _, rfl, upd_same, cutV_le lo hi qz, repL_le (le_tp s hl) _ _ (q3.cut lo hi)⟩
    | none =>
      simp only [e1] at h
      cases e2 : asL S a with
      | none => simp only [e2] at h; exact h.elim
      | some ds =>
        simp only [e2] at h
        obtain ⟨p, vs, rfl, q2, q3, qz⟩ := asL_ofz s e2 ra
        exact .inr (.inr ⟨p, vs, rfl, q2, fun l hl => post_fr s hl h ⟨l, _, rfl, .inr rfl, upd_same, cutV_le lo hi qz, repL_le (le_fr s hl) _ _ (q3.cut lo hi)⟩⟩)
  cases a with
  | str z =>
    cases (show x = _ from ra)
    simp only [fSl] at h
    by_cases hz : z.length ≤ sizeLine
    · rw [if_pos hz] at h
      exact .inl ⟨z, rfl, hz, post_at s h rfl⟩
    · rw [if_neg hz] at h
      exact h.elim
  | _ => exact fall (fun _ z => nomatch z) h
end EV
/-! ## A5 -/
set_option Elab.async false
set_option linter.all false
set_option maxRecDepth 100000
set_option maxHeartbeats 2000000
/-! Part 5: expressions: operators, tests, displays, calls by values. -/
namespace EV
open PySem PySem.Spec
open PyProof.Rows hiding St
open L2
/-! ### truth -/
def truD (S : Store) (d : D) : Option Bool := match d with
  | .non => some false
  | .bl b => some b
  | .int i => some (i != 0)
  | .str y => if y.length ≤ sizeLine then some ((y.length : Int) != 0) else none
  | d => match asQ S d with
    | some ds => some (!ds.isEmpty)
    | none => match asD S d with
      | some (false, kvs) => some (!kvs.isEmpty)
      | _ => none
section
variable {K : PySem.W.Frag} {w : Wd} {S : Store}
theorem RepL.isEmpty {ds : List D} {vs : List V} (h : RepL K w ds vs) : ds.isEmpty = vs.isEmpty := by
  cases ds with
  | nil => cases (show vs = _ from h); rfl
  | cons d ds => obtain ⟨_, _, rfl, _⟩ := h; rfl
theorem RepD.isEmpty {ds : List (DKey × D)} {vs : List (Key × V)} (h : RepD K w ds vs) : ds.isEmpty = vs.isEmpty := by
  cases ds with
  | nil => cases (show vs = _ from h); rfl
  | cons d ds => obtain ⟨_, d⟩ := d; obtain ⟨_, _, _, rfl, _⟩ := h; rfl
theorem truD_of (s : SR K w S) {d : D} {v : V} {k : Bool} (h : truD S d = some k) (r : Rep K w d v) : TruV K v w.H k := by
  have fall : (match asQ S d with
    | some ds => some (!ds.isEmpty)
    | none => match asD S d with
      | some (false, kvs) => some (!kvs.isEmpty)
      | _ => none) = some k → TruV K v w.H k := fun h => by
    cases e : asQ S d with
    | some ds =>
      rw [e] at h
      obtain ⟨a, vs, rfl, h2, h3⟩ := asQ_of s e r
      simp only [h3.isEmpty] at h
      rcases h2 with h2 | h2
      · exact .inl ⟨vs, h2, (Option.some.inj h).symm⟩
      · exact .inr (.inl ⟨vs, h2, (Option.some.inj h).symm⟩)
    | none =>
      rw [e] at h
      cases e2 : asD S d with
      | none => rw [e2] at h; cases h
      | some p =>
        obtain ⟨t, kvs⟩ := p
        rw [e2] at h
        cases t with
        | true => cases h
        | false =>
          obtain ⟨a, rfl, ks, h2, h3⟩ := asD_of s e2 r
          simp only [h3.isEmpty] at h
          exact .inr (.inr ⟨ks, h2, (Option.some.inj h).symm⟩)
  cases d with
  | non => cases h; cases (show v = _ from r); exact rfl
  | bl b => cases h; cases (show v = _ from r); exact rfl
  | int i => cases h; cases (show v = _ from r); exact rfl
  | str y =>
    cases (show v = _ from r)
    simp only [truD] at h
    by_cases hz : y.length ≤ sizeLine
    · rw [if_pos hz] at h
      exact ⟨hz, (Option.some.inj h).symm⟩
    · rw [if_neg hz] at h
      cases h
  | _ => exact fall h
end
section
variable {K : PySem.W.Frag} {W : WX} {x : Xc} {σ : L2.St} {H : Hp} {Q : VK} {QB : Bool → Hp → Prop}
/-! ### one operand; comparisons; tests -/
def eUn (f : D → Store → R D) (a : EM) : EM := fun env S => (a env S).bind f
def OpU (K : PySem.W.Frag) (r : V → Hp → VK → Prop) (f : D → Store → R D) : Prop := ∀ (W : WX) (σ : L2.St) (w : Wd) (S : Store) (a : D) (x : V) (Q : VK), SR K w S → Rep K w a x →
  Post K W σ w (f a S) (fun d _ w' => ∀ v, Rep K w' d v → Q v w'.H) → r x w.H Q
theorem sim_un {r : V → Hp → VK → Prop} {f : D → Store → R D} {ma : EM} (ho : OpU K r f) (h : rd K W x (eUn f ma) σ H Q) : tUn r (rd K W x ma) σ H Q := by
  obtain ⟨w, env, S, rfl, s, er, h⟩ := h
  exact ⟨w, env, S, rfl, s, er, h.bind.mono fun a S1 w1 l1 s1 h1 v rv => ho W σ w1 S1 a v Q s1 rv h1⟩
def fNeg : D → Store → R D := fun a S => match a with
  | .int i => .ok (.int (-i)) S
  | _ => .no
theorem opu_neg : OpU K (rU fun i => .int (-i)) fNeg := fun W σ w S a x Q s ra h => by
  cases a with
  | int i => cases (show x = _ from ra); exact ⟨i, rfl, post_at s h rfl⟩
  | _ => exact h.elim
/-- a value that is a bool, as a test -/
def bOf (m : EM) : BM := fun env S => (m env S).bind fun d S1 => match d with
  | .bl b => .ok b S1
  | _ => .no
theorem sim_test {t : TE} {m : EM} (k : ∀ Q, rd K W x m σ H Q → t σ H Q) (h : rdB K W x (bOf m) σ H QB) : tTest t σ H QB := by
  obtain ⟨w, env, S, rfl, s, er, h⟩ := h
  refine k _ ⟨w, env, S, rfl, s, er, h.bind.mono fun d S1 w1 l1 s1 h1 v rv => ?_⟩
  cases d with
  | bl b => exact ⟨b, rv, h1 w1 (Le.refl _) s1⟩
  | _ => exact h1.elim
/-- a value's truth -/
def bTru (m : EM) : BM := fun env S => (m env S).bind fun d S1 => match truD S1 d with
  | some b => .ok b S1
  | none => .no
theorem sim_tru {m : EM} (h : rdB K W x (bTru m) σ H QB) : (rd K W x m) σ H (fun v H' => ∃ k, TruV K v H' k ∧ QB k H') := by
  obtain ⟨w, env, S, rfl, s, er, h⟩ := h
  refine ⟨w, env, S, rfl, s, er, h.bind.mono fun d S1 w1 l1 s1 h1 v rv => ?_⟩
  cases e : truD S1 d with
  | none => simp only [e] at h1; exact h1.elim
  | some b =>
    simp only [e] at h1
    exact ⟨b, truD_of s1 e rv, h1 w1 (Le.refl _) s1⟩
def bNot (m : BM) : BM := fun env S => (m env S).bind fun b S1 => .ok (!b) S1
def bAnd (m n : BM) : BM := fun env S => (m env S).bind fun b S1 => if b then n env S1 else .ok false S1
def bOr (m n : BM) : BM := fun env S => (m env S).bind fun b S1 => if b then .ok true S1 else n env S1
theorem sim_bnot {m : BM} (h : rdB K W x (bNot m) σ H QB) : tNot (rdB K W x m) σ H QB := by
  obtain ⟨w, env, S, rfl, s, er, h⟩ := h
  exact ⟨w, env, S, rfl, s, er, h.bind.mono fun d S1 w1 l1 s1 h1 => h1 w1 (Le.refl _) s1⟩
theorem sim_band {m n : BM} (h : rdB K W x (bAnd m n) σ H QB) : tAnd (rdB K W x m) (rdB K W x n) σ H QB := by
  obtain ⟨w, env, S, rfl, s, er, h⟩ := h
  refine ⟨w, env, S, rfl, s, er, h.bind.mono fun d S1 w1 l1 s1 h1 => ?_⟩
  cases d with
  | true => exact ⟨w1, env, S1, rfl, s1, er.le l1, h1⟩
  | false => exact h1 w1 (Le.refl _) s1
theorem sim_bor {m n : BM} (h : rdB K W x (bOr m n) σ H QB) : tOr (rdB K W x m) (rdB K W x n) σ H QB := by
  obtain ⟨w, env, S, rfl, s, er, h⟩ := h
  refine ⟨w, env, S, rfl, s, er, h.bind.mono fun d S1 w1 l1 s1 h1 => ?_⟩
  cases d with
  | true => exact h1 w1 (Le.refl _) s1
  | false => exact ⟨w1, env, S1, rfl, s1, er.le l1, h1⟩
/-- a if t else b -/
def eIf (t : BM) (a b : EM) : EM := fun env S => (t env S).bind fun k S1 => if k then a env S1 else b env S1
theorem sim_if {t : BM} {a b : EM} (h : rd K W x (eIf t a b) σ H Q) : tIf (rdB K W x t) (rd K W x a) (rd K W x b) σ H Q := by
  obtain ⟨w, env, S, rfl, s, er, h⟩ := h
  refine ⟨w, env, S, rfl, s, er, h.bind.mono fun d S1 w1 l1 s1 h1 => ?_⟩
  cases d with
  | true => exact ⟨w1, env, S1, rfl, s1, er.le l1, h1⟩
  | false => exact ⟨w1, env, S1, rfl, s1, er.le l1, h1⟩
/-- a op b op' c -/
def eChain (f g : F2) (a b c : EM) : EM := fun env S => (a env S).bind fun u S1 => (b env S1).bind fun v S2 => (f u v S2).bind fun k S3 => match k with
  | .bl true => (c env S3).bind fun z S4 => g v z S4
  | .bl false => .ok (.bl false) S3
  | _ => .no
theorem sim_chain {r r' : R2} {f g : F2} {a b c : EM} (ho : OpL K r f) (ho' : OpL K r' g) (h : rd K W x (eChain f g a b c) σ H Q) : tChain r r' (rd K W x a) (rd K W x b) (rd K W x c) σ H Q := by
  obtain ⟨w, env, S, rfl, s, er, h⟩ := h
  refine ⟨w, env, S, rfl, s, er, h.bind.mono fun d S1 w1 l1 s1 h1 v1 r1 => ?_⟩
  refine ⟨w1, env, S1, rfl, s1, er.le l1, h1.bind.mono fun e S2 w2 l2 s2 h2 v2 r2 => ?_⟩
  refine ho W σ w2 S2 d e v1 v2 _ s2 (rep_le l2 _ _ r1) r2 (h2.bind.mono fun k S3 w3 l3 s3 h3 v3 r3 => ?_)
  cases k with
  | bl k =>
    refine ⟨k, r3, ?_⟩
    cases k with
    | false => exact post_at s3 h3 rfl
    | true => exact ⟨w3, env, S3, rfl, s3, er.le ((l1.trans l2).trans l3), h3.bind.mono fun z S4 w4 l4 s4 h4 v4 r4 => ho' W σ w4 S4 e z v2 v4 Q s4 (rep_le (l3.trans l4) _ _ r2) r4 h4⟩
  | _ => exact h3.elim
/-- and, or, not as values, by truth -/
def eOr (a b : EM) : EM := fun env S => (a env S).bind fun d S1 => match truD S1 d with
  | some true => .ok d S1
  | some false => b env S1
  | none => .no
def eAnd (a b : EM) : EM := fun env S => (a env S).bind fun d S1 => match truD S1 d with
  | some true => b env S1
  | some false => .ok d S1
  | none => .no
def fNot : D → Store → R D := fun a S => match truD S a with
  | some k => .ok (.bl (!k)) S
  | none => .no
theorem sim_or {a b : EM} (h : rd K W x (eOr a b) σ H Q) : tOrT K (rd K W x a) (rd K W x b) σ H Q := by
  obtain ⟨w, env, S, rfl, s, er, h⟩ := h
  refine ⟨w, env, S, rfl, s, er, h.bind.mono fun d S1 w1 l1 s1 h1 v rv => ?_⟩
  cases e : truD S1 d with
  | none => simp only [e] at h1; exact h1.elim
  | some k =>
    refine ⟨k, truD_of s1 e rv, ?_⟩
    cases k with
    | true => simp only [e] at h1; exact post_at s1 h1 rv
    | false => simp only [e] at h1; exact ⟨w1, env, S1, rfl, s1, er.le l1, h1⟩
theorem sim_and {a b : EM} (h : rd K W x (eAnd a b) σ H Q) : tAndT K (rd K W x a) (rd K W x b) σ H Q := by
  obtain ⟨w, env, S, rfl, s, er, h⟩ := h
  refine ⟨w, env, S, rfl, s, er, h.bind.mono fun d S1 w1 l1 s1 h1 v rv => ?_⟩
  cases e : truD S1 d with
  | none => simp only [e] at h1; exact h1.elim
  | some k =>
    refine ⟨k, truD_of s1 e rv, ?_⟩
    cases k with
    | true => simp only [e] at h1; exact ⟨w1, env, S1, rfl, s1, er.le l1, h1⟩
    | false => simp only [e] at h1; exact post_at s1 h1 rv
theorem sim_not {a : EM} (h : rd K W x (eUn fNot a) σ H Q) : tNotT K (rd K W x a) σ H Q := by
  obtain ⟨w, env, S, rfl, s, er, h⟩ := h
  refine ⟨w, env, S, rfl, s, er, h.bind.mono fun d S1 w1 l1 s1 h1 v rv => ?_⟩
  unfold fNot at h1
  cases e : truD S1 d with
  | none => simp only [e] at h1; exact h1.elim
  | some k =>
    simp only [e] at h1
    exact ⟨k, truD_of s1 e rv, post_at s1 h1 rfl⟩
/-! ### arguments, displays -/
def aList : List EM → AM
  | [], _, S => .ok [] S
  | m :: ms, env, S => (m env S).bind fun d S1 => (aList ms env S1).bind fun ds S2 => .ok (d :: ds) S2
theorem aList_len : ∀ {ms : List EM} {env : Env} {S S' : Store} {ds : List D}, aList ms env S = .ok ds S' → ds.length = ms.length
  | [], _, _, _, _, h => by cases h; rfl
  | m :: ms, env, S, S', ds, h => by
    simp only [aList] at h
    cases e : m env S with
    | ok d S1 =>
      rw [e, R.bind_ok] at h
      cases e2 : aList ms env S1 with
      | ok ds' S2 =>
        rw [e2, R.bind_ok] at h
        cases h
        simp [aList_len e2]
      | er _ _ => rw [e2] at h; cases h
      | no => rw [e2] at h; cases h
    | er _ _ => rw [e] at h; cases h
    | no => rw [e] at h; cases h
variable {QA : List V → Hp → Prop}
theorem sim_nil (h : rdA K W x (aList []) σ H QA) : tNil σ H QA := by
  obtain ⟨w, env, S, rfl, s, er, h⟩ := h
  exact h w (Le.refl _) s [] rfl
theorem sim_cons {m : EM} {ms : List EM} (h : rdA K W x (aList (m :: ms)) σ H QA) : tCons (rd K W x m) (rdA K W x (aList ms)) σ H QA := by
  obtain ⟨w, env, S, rfl, s, er, h⟩ := h
  refine ⟨w, env, S, rfl, s, er, h.bind.mono fun d S1 w1 l1 s1 h1 v rv => ?_⟩
  refine ⟨w1, env, S1, rfl, s1, er.le l1, h1.bind.mono fun ds S2 w2 l2 s2 h2 vs rvs => ?_⟩
  exact h2 w2 (Le.refl _) s2 (v :: vs) ⟨v, vs, rfl, rep_le l2 _ _ rv, rvs⟩
/-- a new list: standing still | a cell -/
def mkL (c : Bool) (ds : List D) (S : Store) : R D := match c with
  | false => .ok (.lst ds) S
  | true => .ok (.loc S.length) (S ++ [some (.lst ds)])
theorem post_mkL {w : Wd} {S : Store} {c : Bool} {ds : List D} {vs : List V} {p : Addr} (s : SR K w S) (hp : w.H p = none) (r : RepL K w ds vs) (hz : vs.length ≤ sizeLine) (h : Post K W σ w (mkL c ds S) (fun d _ w' => ∀ v, Rep K w' d v → Q v w'.H)) :
    Q (.ref p) (upd w.H p (.lst vs)) := by
  cases c with
  | false => exact post_fr s hp h ⟨p, vs, rfl, .inr rfl, upd_same, hz, repL_le (le_fr s hp) _ _ r⟩
  | true =>
    refine post_nw s hp h ⟨vs, upd_same, hz, repL_le (le_nw s hp) _ _ r⟩ ⟨p, rfl, ?_⟩
    show (w.ι ++ [p])[S.length]? = some p
    rw [List.getElem?_append_right (by rw [s.len]; exact Nat.le_refl _), s.len, Nat.sub_self]
    rfl
def eTup (ms : List EM) : EM := fun env S => (aList ms env S).bind fun ds S1 => .ok (.tup ds) S1
def eLst (c : Bool) (ms : List EM) : EM := fun env S => (aList ms env S).bind fun ds S1 => mkL c ds S1
theorem size1000 {n : Nat} (h : n ≤ 1000) : n ≤ sizeLine := by rw [sizeLine_eq]; omega
theorem post_len {w : Wd} {ms : List EM} {env : Env} {S : Store} {Q1 : List D → Store → Wd → Prop} (h : Post K W σ w (aList ms env S) Q1) : Post K W σ w (aList ms env S) (fun ds S' w' => ds.length = ms.length ∧ Q1 ds S' w') := by
  cases e : aList ms env S with
  | ok ds S1 => rw [e] at h; exact fun w' l s => ⟨aList_len e, h w' l s⟩
  | er y S1 => rw [e] at h; exact h
  | no => rw [e] at h; exact h
theorem sim_tup {ms : List EM} (hz : ms.length ≤ 1000) (h : rd K W x (eTup ms) σ H Q) : tTup (rdA K W x (aList ms)) σ H Q := by
  obtain ⟨w, env, S, rfl, s, er, h⟩ := h
  refine ⟨w, env, S, rfl, s, er, (post_len h.bind).mono fun ds S1 w1 l1 s1 h1 vs rv => ?_⟩
  obtain ⟨hl, h1⟩ := h1
  exact ⟨by rw [← rv.length, hl]; exact size1000 hz, fun p hp => post_tp s1 hp h1 ⟨p, vs, rfl, upd_same, by rw [← rv.length, hl]; exact size1000 hz, repL_le (le_tp s1 hp) _ _ rv⟩⟩
theorem sim_lst {c : Bool} {ms : List EM} (hz : ms.length ≤ 1000) (h : rd K W x (eLst c ms) σ H Q) : tLst (rdA K W x (aList ms)) σ H Q := by
  obtain ⟨w, env, S, rfl, s, er, h⟩ := h
  refine ⟨w, env, S, rfl, s, er, (post_len h.bind).mono fun ds S1 w1 l1 s1 h1 vs rv => ?_⟩
  obtain ⟨hl, h1⟩ := h1
  exact ⟨by rw [← rv.length, hl]; exact size1000 hz, fun p hp => post_mkL s1 hp rv (by rw [← rv.length, hl]; exact size1000 hz) h1⟩
/-! ### calls by values -/
abbrev FN := List D → Store → R D
def eApp (f : FN) (ms : List EM) : EM := fun env S => (aList ms env S).bind f
def OpC (K : PySem.W.Frag) (r : List V → Hp → VK → Prop) (f : FN) : Prop := ∀ (W : WX) (σ : L2.St) (w : Wd) (S : Store) (ds : List D) (vs : List V) (Q : VK), SR K w S → RepL K w ds vs →
  Post K W σ w (f ds S) (fun d _ w' => ∀ v, Rep K w' d v → Q v w'.H) → r vs w.H Q
theorem sim_app {r : List V → Hp → VK → Prop} {f : FN} {ms : List EM} (ho : OpC K r f) (h : rd K W x (eApp f ms) σ H Q) : tCB r (rdA K W x (aList ms)) σ H Q := by
  obtain ⟨w, env, S, rfl, s, er, h⟩ := h
  exact ⟨w, env, S, rfl, s, er, h.bind.mono fun ds S1 w1 l1 s1 h1 vs rv => ho W σ w1 S1 ds vs Q s1 rv h1⟩
theorem RepL.one {w : Wd} {d : D} {vs : List V} (h : RepL K w [d] vs) : ∃ v, vs = [v] ∧ Rep K w d v := by
  obtain ⟨v, vs', rfl, h1, h2⟩ := h
  cases (show vs' = _ from h2)
  exact ⟨v, rfl, h1⟩
theorem RepL.two {w : Wd} {d e : D} {vs : List V} (h : RepL K w [d, e] vs) : ∃ v u, vs = [v, u] ∧ Rep K w d v ∧ Rep K w e u := by
  obtain ⟨v, vs', rfl, h1, h2⟩ := h
  obtain ⟨u, rfl, h3⟩ := h2.one
  exact ⟨v, u, rfl, h1, h3⟩
/-- one argument -/
def f1 (f : D → Store → R D) : FN := fun ds S => match ds with
  | [d] => f d S
  | _ => .no
def f2 (f : D → D → Store → R D) : FN := fun ds S => match ds with
  | [d, e] => f d e S
  | _ => .no
theorem opc_1 {r : List V → Hp → VK → Prop} {f : D → Store → R D} (h : ∀ (W : WX) (σ : L2.St) (w : Wd) (S : Store) (d : D) (v : V) (Q : VK), SR K w S → Rep K w d v →
    Post K W σ w (f d S) (fun d _ w' => ∀ v, Rep K w' d v → Q v w'.H) → r [v] w.H Q) : OpC K r (f1 f) := fun W σ w S ds vs Q s rv q => by
  match ds, q, rv with
  | [d], q, rv =>
    obtain ⟨v, rfl, rv1⟩ := rv.one
    exact h W σ w S d v Q s rv1 q
  | [], q, _ => exact q.elim
  | _ :: _ :: _, q, _ => exact q.elim
theorem opc_2 {r : List V → Hp → VK → Prop} {f : D → D → Store → R D} (h : ∀ (W : WX) (σ : L2.St) (w : Wd) (S : Store) (d e : D) (v u : V) (Q : VK), SR K w S → Rep K w d v → Rep K w e u →
    Post K W σ w (f d e S) (fun d _ w' => ∀ v, Rep K w' d v → Q v w'.H) → r [v, u] w.H Q) : OpC K r (f2 f) := fun W σ w S ds vs Q s rv q => by
  match ds, q, rv with
  | [d, e], q, rv =>
    obtain ⟨v, u, rfl, rv1, ru⟩ := rv.two
    exact h W σ w S d e v u Q s rv1 ru q
  | [], q, _ => exact q.elim
  | [_], q, _ => exact q.elim
  | _ :: _ :: _ :: _, q, _ => exact q.elim
def fAbs : FN := f1 fun d S => match d with
  | .int i => .ok (.int (if i < 0 then -i else i)) S
  | _ => .no
theorem opc_abs : OpC K (fun xs H Q => ∃ i, xs = [.int i] ∧ Q (.int (if i < 0 then -i else i)) H) fAbs := opc_1 fun W σ w S d v Q s r h => by
  cases d with
  | int i => cases (show v = _ from r); exact ⟨i, rfl, post_at s h rfl⟩
  | _ => exact h.elim
def fMax2 : FN := f2 fun a b S => match a, b with
  | .int i, .int j => .ok (.int (if j > i then j else i)) S
  | _, _ => .no
def fMin2 : FN := f2 fun a b S => match a, b with
  | .int i, .int j => .ok (.int (if j < i then j else i)) S
  | _, _ => .no
theorem opc_max2 : OpC K (fun xs H Q => ∃ i j, xs = [.int i, .int j] ∧ Q (.int (if j > i then j else i)) H) fMax2 := opc_2 fun W σ w S d e v u Q s r q h => by
  cases d <;> first | exact h.elim | (cases e <;> first | exact h.elim | skip)
  cases (show v = _ from r); cases (show u = _ from q)
  exact ⟨_, _, rfl, post_at s h rfl⟩
theorem opc_min2 : OpC K (fun xs H Q => ∃ i j, xs = [.int i, .int j] ∧ Q (.int (if j < i then j else i)) H) fMin2 := opc_2 fun W σ w S d e v u Q s r q h => by
  cases d <;> first | exact h.elim | (cases e <;> first | exact h.elim | skip)
  cases (show v = _ from r); cases (show u = _ from q)
  exact ⟨_, _, rfl, post_at s h rfl⟩
def fInt : FN := f1 fun d S => match d with
  | .int i => .ok (.int i) S
  | .bl k => .ok (.int (if k then 1 else 0)) S
  | _ => .no
theorem opc_int : OpC K (fun xs H Q => (∃ i, xs = [.int i] ∧ Q (.int i) H) ∨ ∃ k, xs = [.bl k] ∧ Q (.int (if k then 1 else 0)) H) fInt := opc_1 fun W σ w S d v Q s r h => by
  cases d with
  | int i => cases (show v = _ from r); exact .inl ⟨i, rfl, post_at s h rfl⟩
  | bl k => cases (show v = _ from r); exact .inr ⟨k, rfl, post_at s h rfl⟩
  | _ => exact h.elim
/-- len -/
def fLen : FN := f1 fun d S => match asQ S d with
  | some ds => .ok (.int ds.length) S
  | none => match d with
    | .str z => if z.length ≤ sizeLine then .ok (.int z.length) S else .no
    | _ => .no
def rLen2 (K : PySem.W.Frag) : List V → Hp → VK → Prop := fun xs H Q => (∃ p ys, xs = [.ref p] ∧ (SqL K H p ys ∨ SqT K H p ys) ∧ Q (.int ys.length) H) ∨ ∃ z, xs = [.str z] ∧ z.length ≤ sizeLine ∧ Q (.int z.length) H
theorem call_len2 {X : Cx} : CallR X (.builtin "len") (rLen2 X.K) := call_len_seq.or call_len_str
theorem opc_len : OpC K (rLen2 K) fLen := opc_1 fun W σ w S d v Q s r h => by
  cases e : asQ S d with
  | some ds =>
    simp only [e] at h
    obtain ⟨p, vs, rfl, h2, h3⟩ := asQ_of s e r
    exact .inl ⟨p, vs, rfl, h2, by rw [← h3.length]; exact post_at s h rfl⟩
  | none =>
    simp only [e] at h
    cases d with
    | str z =>
      cases (show v = _ from r)
      simp only at h
      by_cases hz : z.length ≤ sizeLine
      · rw [if_pos hz] at h
        exact .inr ⟨z, rfl, hz, post_at s h rfl⟩
      · rw [if_neg hz] at h
        exact h.elim
    | _ => exact h.elim
/-- list(..), tuple(..) of a list or a tuple -/
def fList (c : Bool) : FN := f1 fun d S => match asQ S d with
  | some ds => mkL c ds S
  | none => .no
def fTuple : FN := f1 fun d S => match asT d with
  | some ds => .ok d S
  | none => match asL S d with
    | some ds => .ok (.tup ds) S
    | none => .no
theorem opc_list {c : Bool} : OpC K (fun xs H Q => ∃ p ys, xs = [.ref p] ∧ (SqL K H p ys ∨ SqT K H p ys) ∧ ∀ l, H l = none → Q (.ref l) (upd H l (.lst ys))) (fList c) := opc_1 fun W σ w S d v Q s r h => by
  cases e : asQ S d with
  | some ds =>
    simp only [e] at h
    obtain ⟨p, vs, rfl, h2, h3, hz⟩ := asQ_ofz s e r
    exact ⟨p, vs, rfl, h2, fun l hl => post_mkL s hl h3 hz h⟩
  | none => simp only [e] at h; exact h.elim
theorem opc_tuple : OpC K (fun xs H Q => ∃ p ys, xs = [.ref p] ∧ ((SqL K H p ys ∧ ∀ l, H l = none → Q (.ref l) (upd H l (.tup ys))) ∨ (SqT K H p ys ∧ Q (.ref p) H))) fTuple := opc_1 fun W σ w S d v Q s r h => by
  cases e : asT d with
  | some ds =>
    simp only [e] at h
    obtain ⟨p, vs, rfl, h2, h3⟩ := asT_of e r
    exact ⟨p, vs, rfl, .inr ⟨h2, post_at s h r⟩⟩
  | none =>
    simp only [e] at h
    cases e2 : asL S d with
    | none => simp only [e2] at h; exact h.elim
    | some ds =>
      simp only [e2] at h
      obtain ⟨p, vs, rfl, h2, h3, hz⟩ := asL_ofz s e2 r
      exact ⟨p, vs, rfl, .inl ⟨h2, fun l hl => post_tp s hl h ⟨l, vs, rfl, upd_same, hz, repL_le (le_tp s hl) _ _ h3⟩⟩⟩
/-- sum, max, min of a list of ints -/
def asI (S : Store) (d : D) : Option (List Int) := match asL S d with
  | some ds => mapO toInt ds
  | none => none
theorem asI_of {w : Wd} {S : Store} {d : D} {ns : List Int} {v : V} (s : SR K w S) (h : asI S d = some ns) (r : Rep K w d v) : ∃ a, v = .ref a ∧ SqL K w.H a (ns.map V.int) := by
  unfold asI at h
  cases e : asL S d with
  | none => rw [e] at h; cases h
  | some ds =>
    rw [e] at h
    obtain ⟨a, vs, h1, h2, h3⟩ := asL_of s e r
    have q := mapO_int h
    subst q
    rw [RepL.ints h3] at h2
    exact ⟨a, h1, h2⟩
def fSum : FN := f1 fun d S => match asI S d with
  | some ns => .ok (.int ns.sum) S
  | none => .no
theorem opc_sum : OpC K (rSum K) fSum := opc_1 fun W σ w S d v Q s r h => by
  cases e : asI S d with
  | none => simp only [e] at h; exact h.elim
  | some ns =>
    simp only [e] at h
    obtain ⟨a, rfl, h2⟩ := asI_of s e r
    exact ⟨a, ns, rfl, h2, post_at s h rfl⟩
def maxI : List Int → Int
  | [] => 0
  | [x] => x
  | x :: xs => max x (maxI xs)
def minI : List Int → Int
  | [] => 0
  | [x] => x
  | x :: xs => min x (minI xs)
theorem maxI_mem : ∀ {ns : List Int}, ns ≠ [] → maxI ns ∈ ns ∧ ∀ y ∈ ns, y ≤ maxI ns
  | [], h => absurd rfl h
  | [x], _ => ⟨by simp [maxI], fun y hy => by simp [maxI] at hy ⊢; omega⟩
  | x :: z :: xs, _ => by
    obtain ⟨h1, h2⟩ := maxI_mem (ns := z :: xs) (by simp)
    have e : maxI (x :: z :: xs) = max x (maxI (z :: xs)) := rfl
    rw [e]
    refine ⟨?_, fun y hy => ?_⟩
    · by_cases c : x ≤ maxI (z :: xs)
      · rw [Int.max_eq_right c]; exact List.mem_cons_of_mem _ h1
      · rw [Int.max_eq_left (by omega)]; exact List.mem_cons_self
    · rcases List.mem_cons.mp hy with rfl | hy
      · omega
      · have := h2 y hy; omega
theorem minI_mem : ∀ {ns : List Int}, ns ≠ [] → minI ns ∈ ns ∧ ∀ y ∈ ns, minI ns ≤ y
  | [], h => absurd rfl h
  | [x], _ => ⟨by simp [minI], fun y hy => by simp [minI] at hy ⊢; omega⟩
  | x :: z :: xs, _ => by
    obtain ⟨h1, h2⟩ := minI_mem (ns := z :: xs) (by simp)
    have e : minI (x :: z :: xs) = min x (minI (z :: xs)) := rfl
    rw [e]
    refine ⟨?_, fun y hy => ?_⟩
    · by_cases c : x ≤ minI (z :: xs)
      · rw [Int.min_eq_left c]; exact List.mem_cons_self
      · rw [Int.min_eq_right (by omega)]; exact List.mem_cons_of_mem _ h1
    · rcases List.mem_cons.mp hy with rfl | hy
      · omega
      · have := h2 y hy; omega
def fMax1 : FN := f1 fun d S => match asI S d with
  | some ns => if ns.isEmpty then .no else .ok (.int (maxI ns)) S
  | none => .no
def fMin1 : FN := f1 fun d S => match asI S d with
  | some ns => if ns.isEmpty then .no else .ok (.int (minI ns)) S
  | none => .no
theorem opc_max1 : OpC K (rMax K) fMax1 := opc_1 fun W σ w S d v Q s r h => by
  cases e : asI S d with
  | none => simp only [e] at h; exact h.elim
  | some ns =>
    simp only [e] at h
    obtain ⟨a, rfl, h2⟩ := asI_of s e r
    cases ns with
    | nil => exact h.elim
    | cons n ns =>
      refine ⟨a, n :: ns, rfl, h2, by simp, fun m h3 h4 => ?_⟩
      obtain ⟨k1, k2⟩ := maxI_mem (ns := n :: ns) (by simp)
      have e : m = maxI (n :: ns) := Int.le_antisymm (k2 m h3) (h4 _ k1)
      rw [e]
      exact post_at s h rfl
theorem opc_min1 : OpC K (rMin K) fMin1 := opc_1 fun W σ w S d v Q s r h => by
  cases e : asI S d with
  | none => simp only [e] at h; exact h.elim
  | some ns =>
    simp only [e] at h
    obtain ⟨a, rfl, h2⟩ := asI_of s e r
    cases ns with
    | nil => exact h.elim
    | cons n ns =>
      refine ⟨a, n :: ns, rfl, h2, by simp, fun m h3 h4 => ?_⟩
      obtain ⟨k1, k2⟩ := minI_mem (ns := n :: ns) (by simp)
      have e : m = minI (n :: ns) := Int.le_antisymm (h4 _ k1) (k2 m h3)
      rw [e]
      exact post_at s h rfl
end
/-! ### slices as expressions -/
abbrev OM := Env → Store → R (Option Int)
def oNone : OM := fun _ S => .ok none S
def oSome (m : EM) : OM := fun env S => (m env S).bind fun d S1 => match d with
  | .int i => .ok (some i) S1
  | _ => .no
def eSl (a : EM) (l u : OM) : EM := fun env S => (a env S).bind fun d S1 => (l env S1).bind fun lo S2 => (u env S2).bind fun hi S3 => fSl d lo hi S3
def rdO (K : PySem.W.Frag) (W : WX) (x : Xc) (m : OM) : TO := fun σ H Q => ∃ w env S, w.H = H ∧ SR K w S ∧ EnvR K x w env σ ∧ Post K W σ w (m env S) (fun b _ w' => Q b w'.H)
section
variable {K : PySem.W.Frag} {W : WX} {x : Xc} {σ : L2.St} {H : Hp} {Q : VK} {QO : Option Int → Hp → Prop}
theorem sim_onone (h : rdO K W x oNone σ H QO) : tNoPart σ H QO := by
  obtain ⟨w, env, S, rfl, s, er, h⟩ := h
  exact h w (Le.refl _) s
theorem sim_osome {m : EM} (h : rdO K W x (oSome m) σ H QO) : tPart (rd K W x m) σ H QO := by
  obtain ⟨w, env, S, rfl, s, er, h⟩ := h
  refine ⟨w, env, S, rfl, s, er, h.bind.mono fun d S1 w1 l1 s1 h1 v rv => ?_⟩
  cases d with
  | int i => exact ⟨i, rv, h1 w1 (Le.refl _) s1⟩
  | _ => exact h1.elim
theorem sim_sl {a : EM} {l u : OM} (h : rd K W x (eSl a l u) σ H Q) : tSl (rSlD K) (rd K W x a) (rdO K W x l) (rdO K W x u) σ H Q := by
  obtain ⟨w, env, S, rfl, s, er, h⟩ := h
  refine ⟨w, env, S, rfl, s, er, h.bind.mono fun d S1 w1 l1 s1 h1 v rv => ?_⟩
  refine ⟨w1, env, S1, rfl, s1, er.le l1, h1.bind.mono fun lo S2 w2 l2 s2 h2 => ?_⟩
  refine ⟨w2, env, S2, rfl, s2, er.le (l1.trans l2), h2.bind.mono fun hi S3 w3 l3 s3 h3 => ?_⟩
  exact sll s3 (rep_le (l2.trans l3) _ _ rv) h3
end
end EV
/-! ## A6 -/
set_option Elab.async false
set_option linter.all false
set_option maxRecDepth 100000
set_option maxHeartbeats 2000000
/-! Part 6: targets, statements, what is walked, loops. -/
namespace EV
open PySem PySem.Spec
open PyProof.Rows hiding St
open L2
inductive SO where
  | nx (env : Env) (S : Store)
  | rt (d : D) (S : Store)
  | bk (env : Env) (S : Store)
  | ct (env : Env) (S : Store)
  | er (x : Ex) (env : Env) (S : Store)
  | no
abbrev SM := Env → Store → SO
/-- what a result leads on to -/
def R.then {α : Type} (r : R α) (env : Env) (f : α → Store → SO) : SO := match r with
  | .ok a S => f a S
  | .er x S => .er x env S
  | .no => .no
@[simp] theorem R.then_ok {α : Type} {a : α} {S : Store} {env : Env} {f : α → Store → SO} : (R.ok a S).then env f = f a S := rfl
@[simp] theorem R.then_er {α : Type} {x : Ex} {S : Store} {env : Env} {f : α → Store → SO} : (R.er x S : R α).then env f = .er x env S := rfl
@[simp] theorem R.then_no {α : Type} {env : Env} {f : α → Store → SO} : (R.no : R α).then env f = .no := rfl
def PostS (K : PySem.W.Frag) (W : WX) (x : Xc) (w : Wd) (r : SO) (D : Ends) : Prop := match r with
  | .nx env' S' => ∀ w' σ', Le w w' → SR K w' S' → EnvR K x w' env' σ' → D.nx σ' w'.H
  | .rt d S' => ∀ w' v, Le w w' → SR K w' S' → Rep K w' d v → D.rt v w'.H
  | .bk env' S' => ∀ w' σ', Le w w' → SR K w' S' → EnvR K x w' env' σ' → D.bk σ' w'.H
  | .ct env' S' => ∀ w' σ', Le w w' → SR K w' S' → EnvR K x w' env' σ' → D.ct σ' w'.H
  | .er y env' S' => ∀ w' σ' cls dd, Le w w' → SR K w' S' → EnvR K x w' env' σ' → ExR K w' y cls dd → W cls dd σ' w'.H
  | .no => False
def rdS (K : PySem.W.Frag) (W : WX) (x : Xc) (m : SM) : TS := fun D σ H => ∃ w env S, w.H = H ∧ SR K w S ∧ EnvR K x w env σ ∧ PostS K W x w (m env S) D
section
variable {K : PySem.W.Frag} {W : WX} {x : Xc} {w w' : Wd} {D D' : Ends} {r : SO}
theorem PostS.le (e : Le w w') (h : PostS K W x w r D) : PostS K W x w' r D := by
  cases r with
  | nx env S => exact fun w2 σ l s => h w2 σ (e.trans l) s
  | rt d S => exact fun w2 v l s => h w2 v (e.trans l) s
  | bk env S => exact fun w2 σ l s => h w2 σ (e.trans l) s
  | ct env S => exact fun w2 σ l s => h w2 σ (e.trans l) s
  | er y env S => exact fun w2 σ cls dd l s => h w2 σ cls dd (e.trans l) s
  | no => exact h
/-- of a part that is a result -/
theorem PostS.then {α : Type} {q : R α} {env : Env} {σ : L2.St} {f : α → Store → SO} (er : EnvR K x w env σ) (h : PostS K W x w (q.then env f) D) : Post K W σ w q (fun a S' w' => PostS K W x w' (f a S') D) := by
  cases q with
  | ok a S => exact fun w2 l s => PostS.le l h
  | er y S => exact fun w2 cls dd l s e => h w2 σ cls dd l s (er.le l) e
  | no => exact h
end
/-! ### targets -/
abbrev GF := D → Env → Store → R Env
/-- the slots but those of sl stay -/
structure SameOut (sl : List Nat) (σ σ' : L2.St) : Prop where
  len : σ'.length = σ.length
  at_ : ∀ j, j ∉ sl → σ'[j]? = σ[j]?
theorem SameOut.refl (sl : List Nat) (σ : L2.St) : SameOut sl σ σ := ⟨rfl, fun _ _ => rfl⟩
theorem SameOut.trans {sl sl' : List Nat} {σ σ' σ'' : L2.St} (a : SameOut sl σ σ') (b : SameOut sl' σ' σ'') : SameOut (sl ++ sl') σ σ'' :=
  ⟨b.len.trans a.len, fun j hj => (b.at_ j fun z => hj (List.mem_append_right _ z)).trans (a.at_ j fun z => hj (List.mem_append_left _ z))⟩
/-- a target raises nothing -/
def PostN {α : Type} (K : PySem.W.Frag) (w : Wd) (r : R α) (Q : α → Store → Wd → Prop) : Prop := match r with
  | .ok d S' => ∀ w', Le w w' → SR K w' S' → Q d S' w'
  | .er _ _ => False
  | .no => False
section
variable {α β : Type} {K : PySem.W.Frag} {w w' : Wd} {r : R α} {f : α → Store → R β} {Q Q' : α → Store → Wd → Prop} {Q2 : β → Store → Wd → Prop}
theorem PostN.le (e : Le w w') (h : PostN K w r Q) : PostN K w' r Q := by
  cases r with
  | ok d S' => exact fun w2 l s => h w2 (e.trans l) s
  | er x S' => exact h
  | no => exact h
theorem PostN.mono (h : PostN K w r Q) (k : ∀ d S' w', Le w w' → SR K w' S' → Q d S' w' → Q' d S' w') : PostN K w r Q' := by
  cases r with
  | ok d S' => exact fun w2 l s => k _ _ _ l s (h w2 l s)
  | er x S' => exact h
  | no => exact h
theorem PostN.bind (h : PostN K w (r.bind f) Q2) : PostN K w r (fun a S' w' => PostN K w' (f a S') Q2) := by
  cases r with
  | ok d S' => exact fun w2 l s => PostN.le l h
  | er x S' => exact h
  | no => exact h
theorem PostN.post {W : WX} {σ : L2.St} (h : PostN K w r Q) : Post K W σ w r Q := by
  cases r with
  | ok d S' => exact h
  | er x S' => exact h.elim
  | no => exact h
end
def rdG (K : PySem.W.Frag) (x : Xc) (sl : List Nat) (g : GF) : TG := fun v σ H Q => ∃ w env S d, w.H = H ∧ SR K w S ∧ EnvR K x w env σ ∧ Rep K w d v ∧
  PostN K w (g d env S) (fun env' _ w' => ∀ σ', EnvR K x w' env' σ' → SameOut sl σ σ' → Q σ' w'.H)
abbrev GFs := List D → Env → Store → R Env
def rdGs (K : PySem.W.Frag) (x : Xc) (sl : List Nat) (g : GFs) : TGs := fun vs σ H Q => ∃ w env S ds, w.H = H ∧ SR K w S ∧ EnvR K x w env σ ∧ RepL K w ds vs ∧
  PostN K w (g ds env S) (fun env' _ w' => ∀ σ', EnvR K x w' env' σ' → SameOut sl σ σ' → Q σ' w'.H)
def gVar (i : Nat) : GF := fun d env S => if i < env.length then .ok (env.set i (some d)) S else .no
def gsNil : GFs := fun ds env S => match ds with
  | [] => .ok env S
  | _ => .no
def gsCons (g : GF) (gs : GFs) : GFs := fun ds env S => match ds with
  | d :: ds => (g d env S).bind fun env' S' => gs ds env' S'
  | [] => .no
def gTupD (n : Nat) (gs : GFs) : GF := fun d env S => match asQ S d with
  | some ds => if ds.length = n then gs ds env S else .no
  | none => .no
section
variable {K : PySem.W.Frag} {W : WX} {x : Xc} {σ : L2.St} {H : Hp} {v : V} {Q : L2.St → Hp → Prop}
theorem EnvR.set {w : Wd} {env : Env} {i : Nat} {d : D} (er : EnvR K x w env σ) (hi : i < env.length) (r : Rep K w d v) : EnvR K x w (env.set i (some d)) (σ.set i (some v)) := by
  refine ⟨by simp [er.len], fun j d' h => ?_⟩
  by_cases e : i = j
  · subst e
    rw [List.getElem?_set_self hi] at h
    cases h
    exact ⟨v, List.getElem?_set_self (by rw [← er.len]; exact hi), .inl r⟩
  · rw [List.getElem?_set_ne e] at h
    rw [List.getElem?_set_ne e]
    exact er.at_ j d' h
theorem sameOut_set {i : Nat} {v : V} : SameOut [i] σ (σ.set i (some v)) := ⟨by simp, fun j h => List.getElem?_set_ne (fun e => h (by simp [e]))⟩
theorem simG_var {i : Nat} (h : rdG K x [i] (gVar i) v σ H Q) : gName i v σ H Q := by
  obtain ⟨w, env, S, d, rfl, s, er, r, h⟩ := h
  unfold gVar at h
  by_cases hi : i < env.length
  · rw [if_pos hi] at h
    exact h w (Le.refl _) s _ (er.set hi r) sameOut_set
  · rw [if_neg hi] at h
    exact h.elim
theorem simG_nil {vs : List V} (h : rdGs K x [] gsNil vs σ H Q) : gNil vs σ H Q := by
  obtain ⟨w, env, S, ds, rfl, s, er, r, h⟩ := h
  cases ds with
  | nil =>
    cases (show vs = _ from r)
    exact ⟨rfl, h w (Le.refl _) s σ er (SameOut.refl _ _)⟩
  | cons _ _ => exact h.elim
theorem simG_cons {vs : List V} {sl sl' : List Nat} {g : GF} {gs : GFs} (h : rdGs K x (sl ++ sl') (gsCons g gs) vs σ H Q) : gCons (rdG K x sl g) (rdGs K x sl' gs) vs σ H Q := by
  obtain ⟨w, env, S, ds, rfl, s, er, r, h⟩ := h
  cases ds with
  | nil => exact h.elim
  | cons d ds =>
    obtain ⟨v, vs', rfl, r1, r2⟩ := r
    refine ⟨v, vs', rfl, w, env, S, d, rfl, s, er, r1, h.bind.mono fun env' S' w' l s' h' σ' er' so => ?_⟩
    exact ⟨w', env', S', ds, rfl, s', er', repL_le l _ _ r2, h'.mono fun env'' S'' w'' l2 s2 h2 σ'' er'' so' => h2 σ'' er'' (so.trans so')⟩
/-- a tuple | a list is unpacked -/
abbrev gSeqs (K : PySem.W.Frag) (n : Nat) (t : TGs) : TG := fun v σ H Q => gTup K n t v σ H Q ∨ gUnl K n t v σ H Q
theorem simG_tup {n : Nat} {sl : List Nat} {gs : GFs} (h : rdG K x sl (gTupD n gs) v σ H Q) : gSeqs K n (rdGs K x sl gs) v σ H Q := by
  obtain ⟨w, env, S, d, rfl, s, er, r, h⟩ := h
  unfold gTupD at h
  cases e : asQ S d with
  | none => simp only [e] at h; exact h.elim
  | some ds =>
    simp only [e] at h
    obtain ⟨a, vs, rfl, h2, h3⟩ := asQ_of s e r
    by_cases hl : ds.length = n
    · rw [if_pos hl] at h
      rcases h2 with h2 | h2
      · exact .inr ⟨a, vs, rfl, h2, by rw [← h3.length]; exact hl, w, env, S, ds, rfl, s, er, h3, h⟩
      · exact .inl ⟨a, vs, rfl, h2, by rw [← h3.length]; exact hl, w, env, S, ds, rfl, s, er, h3, h⟩
    · rw [if_neg hl] at h
      exact h.elim
end
/-! ### simple statements -/
def sNext : SM := fun env S => .nx env S
def sSeq (a b : SM) : SM := fun env S => match a env S with
  | .nx env' S' => b env' S'
  | r => r
def sExpr (m : EM) : SM := fun env S => (m env S).then env fun _ S' => .nx env S'
def sRet (m : EM) : SM := fun env S => (m env S).then env fun d S' => .rt d S'
def sRetN : SM := fun _ S => .rt .non S
def sBrk : SM := fun env S => .bk env S
def sCont : SM := fun env S => .ct env S
def sIf (t : BM) (a b : SM) : SM := fun env S => (t env S).then env fun k S' => if k then a env S' else b env S'
/-- an assignment raises by its value alone -/
def sAsg (m : EM) (g : GF) : SM := fun env S => (m env S).then env fun d S' => match g d env S' with
  | .ok env' S'' => .nx env' S''
  | _ => .no
section
variable {K : PySem.W.Frag} {W : WX} {x : Xc} {D : Ends} {σ : L2.St} {H : Hp}
theorem simS_next (h : rdS K W x sNext D σ H) : tNext D σ H := by
  obtain ⟨w, env, S, rfl, s, er, h⟩ := h
  exact h w σ (Le.refl _) s er
theorem simS_seq {a b : SM} (h : rdS K W x (sSeq a b) D σ H) : tSeq (rdS K W x a) (rdS K W x b) D σ H := by
  obtain ⟨w, env, S, rfl, s, er, h⟩ := h
  refine ⟨w, env, S, rfl, s, er, ?_⟩
  unfold sSeq at h
  cases e : a env S with
  | nx env' S' =>
    simp only [e] at h
    exact fun w' σ' l s' er' => ⟨w', env', S', rfl, s', er', PostS.le l h⟩
  | rt d S' => simp only [e] at h; exact h
  | bk env' S' => simp only [e] at h; exact h
  | ct env' S' => simp only [e] at h; exact h
  | er y env' S' => simp only [e] at h; exact h
  | no => simp only [e] at h; exact h
theorem simS_expr {m : EM} (h : rdS K W x (sExpr m) D σ H) : tDrop (rd K W x m) D σ H := by
  obtain ⟨w, env, S, rfl, s, er, h⟩ := h
  exact ⟨w, env, S, rfl, s, er, (PostS.then er h).mono fun d S' w' l s' h' v _ => h' w' σ (Le.refl _) s' (er.le l)⟩
theorem simS_ret {m : EM} (h : rdS K W x (sRet m) D σ H) : tRet (rd K W x m) D σ H := by
  obtain ⟨w, env, S, rfl, s, er, h⟩ := h
  exact ⟨w, env, S, rfl, s, er, (PostS.then er h).mono fun d S' w' l s' h' v rv => h' w' v (Le.refl _) s' rv⟩
theorem simS_retN (h : rdS K W x sRetN D σ H) : tRetN D σ H := by
  obtain ⟨w, env, S, rfl, s, er, h⟩ := h
  exact h w .non (Le.refl _) s rfl
theorem simS_brk (h : rdS K W x sBrk D σ H) : tBreak D σ H := by
  obtain ⟨w, env, S, rfl, s, er, h⟩ := h
  exact h w σ (Le.refl _) s er
theorem simS_cont (h : rdS K W x sCont D σ H) : tCont D σ H := by
  obtain ⟨w, env, S, rfl, s, er, h⟩ := h
  exact h w σ (Le.refl _) s er
theorem simS_if {t : BM} {a b : SM} (h : rdS K W x (sIf t a b) D σ H) : tIfS (rdB K W x t) (rdS K W x a) (rdS K W x b) D σ H := by
  obtain ⟨w, env, S, rfl, s, er, h⟩ := h
  refine ⟨w, env, S, rfl, s, er, (PostS.then er h).mono fun k S' w' l s' h' => ?_⟩
  cases k with
  | true => exact ⟨w', env, S', rfl, s', er.le l, h'⟩
  | false => exact ⟨w', env, S', rfl, s', er.le l, h'⟩
theorem post_asg {g : GF} {d : EV.D} {env : Env} {S : Store} {w : Wd} (h : PostS K W x w (match g d env S with
  | .ok env' S'' => .nx env' S''
  | _ => .no) D) : PostN K w (g d env S) (fun env' _ w' => ∀ σ', EnvR K x w' env' σ' → D.nx σ' w'.H) := by
  cases e : g d env S with
  | ok env' S'' => rw [e] at h; exact fun w' l s σ' er => h w' σ' l s er
  | er y S' => rw [e] at h; exact h
  | no => rw [e] at h; exact h
theorem simS_asg {m : EM} {g : GF} {sl : List Nat} (h : rdS K W x (sAsg m g) D σ H) : tAsg (rd K W x m) (rdG K x sl g) D σ H := by
  obtain ⟨w, env, S, rfl, s, er, h⟩ := h
  refine ⟨w, env, S, rfl, s, er, (PostS.then er h).mono fun d S' w' l s' h' v rv => ?_⟩
  exact ⟨w', env, S', d, rfl, s', er.le l, rv, (post_asg h').mono fun env' _ w2 _ _ k σ' er' _ => k σ' er'⟩
end
/-! ### what is walked -/
structure ItS where
  ds : List D
  /-- the cells that must stand as they stood -/
  g : List (Nat × List D) := []
def gOk (S : Store) (it : ItS) : Prop := ∀ p ∈ it.g, S[p.1]? = some (some (.lst p.2))
theorem gOk_nil {S : Store} {ds : List D} : gOk S ⟨ds, []⟩ := fun _ h => nomatch h
abbrev IM := Env → Store → R ItS
/-- the iterator J yields the items of it -/
structure ItR (K : PySem.W.Frag) (w0 : Wd) (it : ItS) (J : It) : Prop where
  len : it.ds.length ≤ sizeLine
  go : ∀ (i : Nat) (w : Wd) (S : Store), LeV w0 w → SR K w S → gOk S it → i < it.ds.length → J.go i w.H
  yld : ∀ (i : Nat) (w : Wd) (S : Store) (v : V) (H' : Hp) (d : D), LeV w0 w → SR K w S → gOk S it → it.ds[i]? = some d → J.yld i w.H v H' → ∃ w', w'.H = H' ∧ Le w w' ∧ SR K w' S ∧ Rep K w' d v
  stop : ∀ (i : Nat) (w : Wd) (S : Store), LeV w0 w → SR K w S → gOk S it → it.ds.length ≤ i → J.stop i w.H
def rdI (K : PySem.W.Frag) (W : WX) (x : Xc) (m : IM) : TI := fun σ H Rr => ∃ w env S, w.H = H ∧ SR K w S ∧ EnvR K x w env σ ∧ Post K W σ w (m env S) (fun it _ w' => ∀ J, ItR K w' it J → Rr J w'.H)
/-- a source of items, a list or a tuple that stands -/
def Src (K : PySem.W.Frag) (w0 : Wd) (g : List (Nat × List D)) (ds : List D) (Sq : Hp → List V → Prop) : Prop :=
  ∀ (w : Wd) (S : Store), LeV w0 w → SR K w S → (∀ p ∈ g, S[p.1]? = some (some (.lst p.2))) → ∃ vs, Sq w.H vs ∧ RepL K w ds vs ∧ vs.length ≤ sizeLine
/-- a list's items and its guard -/
def seqL (S : Store) : D → Option ItS
  | .lst ds => some ⟨ds, []⟩
  | .scr ds => some ⟨ds, []⟩
  | .loc n => match S[n]? with
    | some (some (.lst ds)) => some ⟨ds, [(n, ds)]⟩
    | _ => none
  | _ => none
def seqT : D → Option ItS
  | .tup ds => some ⟨ds, []⟩
  | .ktup ds => some ⟨ds, []⟩
  | _ => none
section
variable {K : PySem.W.Frag} {W : WX} {x : Xc} {σ : L2.St} {H : Hp} {w : Wd} {S : Store} {d : D} {it : ItS} {v : V}
theorem seqL_of (s : SR K w S) (h : seqL S d = some it) (r : Rep K w d v) : ∃ a, v = .ref a ∧ (∃ vs, SqL K w.H a vs) ∧ Src K w it.g it.ds (fun H vs => SqL K H a vs) ∧ gOk S it := by
  have one : ∃ a, v = .ref a ∧ Src K w it.g it.ds (fun H vs => SqL K H a vs) ∧ gOk S it := by
    cases d with
    | lst ds =>
      cases h
      have r' := r
      obtain ⟨a, vs, e, _⟩ := r'
      subst e
      refine ⟨a, rfl, fun w' S' l s' _ => ?_, gOk_nil⟩
      obtain ⟨b, us, e2, h2, h3, hz⟩ := asL_ofz s' (show asL S' (.lst ds) = some ds from rfl) (rep_leV l _ _ r)
      cases e2
      exact ⟨us, h2, h3, hz⟩
    | scr ds =>
      cases h
      have r' := r
      obtain ⟨a, vs, e, _⟩ := r'
      subst e
      refine ⟨a, rfl, fun w' S' l s' _ => ?_, gOk_nil⟩
      obtain ⟨b, us, e2, h2, h3, hz⟩ := asL_ofz s' (show asL S' (.scr ds) = some ds from rfl) (rep_leV l _ _ r)
      cases e2
      exact ⟨us, h2, h3, hz⟩
    | loc n =>
      have r' := r
      obtain ⟨a, e, _⟩ := r'
      subst e
      simp only [seqL] at h
      cases e : S[n]? with
      | none => rw [e] at h; cases h
      | some o =>
        cases o with
        | none => rw [e] at h; cases h
        | some c =>
          cases c with
          | lst ds =>
            rw [e] at h
            cases h
            refine ⟨a, rfl, fun w' S' l s' g => ?_, fun p hp => by simp at hp; rw [hp]; exact e⟩
            have g1 := g (n, ds) (by simp)
            obtain ⟨b, us, e2, h2, h3, hz⟩ := asL_ofz s' (show asL S' (.loc n) = some ds by simp only [asL]; rw [g1]) (rep_leV l _ _ r)
            cases e2
            exact ⟨us, h2, h3, hz⟩
          | _ => rw [e] at h; cases h
    | _ => cases h
  obtain ⟨a, e, h1, h2⟩ := one
  obtain ⟨vs, h3, _⟩ := h1 w S (LeV.refl _) s h2
  exact ⟨a, e, ⟨vs, h3⟩, h1, h2⟩
theorem seqT_of (s : SR K w S) (h : seqT d = some it) (r : Rep K w d v) : ∃ a, v = .ref a ∧ (∃ vs, SqT K w.H a vs) ∧ Src K w it.g it.ds (fun H vs => SqT K H a vs) ∧ gOk S it := by
  have one : ∃ ds a, it = ⟨ds, []⟩ ∧ v = .ref a ∧ Src K w [] ds (fun H vs => SqT K H a vs) := by
    cases d with
    | tup ds =>
      cases h
      have r' := r
      obtain ⟨a, vs, e, _⟩ := r'
      subst e
      refine ⟨ds, a, rfl, rfl, fun w' S' l s' _ => ?_⟩
      obtain ⟨b, us, e2, h2, h3, hz⟩ := asT_ofz (show asT (.tup ds) = some ds from rfl) (rep_leV l _ _ r)
      cases e2
      exact ⟨us, h2, h3, hz⟩
    | ktup ds =>
      cases h
      have r' := r
      obtain ⟨a, vs, e, _⟩ := r'
      subst e
      refine ⟨ds, a, rfl, rfl, fun w' S' l s' _ => ?_⟩
      obtain ⟨b, us, e2, h2, h3, hz⟩ := asT_ofz (show asT (.ktup ds) = some ds from rfl) (rep_leV l _ _ r)
      cases e2
      exact ⟨us, h2, h3, hz⟩
    | _ => cases h
  obtain ⟨ds, a, rfl, e, h1⟩ := one
  obtain ⟨vs, h3, _⟩ := h1 w S (LeV.refl _) s fun _ z => nomatch z
  exact ⟨a, e, ⟨vs, h3⟩, h1, gOk_nil⟩
theorem Src.len {g : List (Nat × List D)} {ds : List D} {Sq : Hp → List V → Prop} (h : Src K w g ds Sq) (s : SR K w S) (k : ∀ p ∈ g, S[p.1]? = some (some (.lst p.2))) : ds.length ≤ sizeLine := by
  obtain ⟨vs, _, h2, hz⟩ := h w S (LeV.refl _) s k
  rw [h2.length]
  exact hz
theorem itr_list {a : Addr} {ds : List D} {g : List (Nat × List D)} (hz : ds.length ≤ sizeLine) (h : Src K w g ds (fun H vs => SqL K H a vs)) : ItR K w ⟨ds, g⟩ (Itl K a) where
  len := hz
  go := fun i w' S' l s' gk hi => by
    obtain ⟨vs, h1, h2, _⟩ := h w' S' l s' gk
    obtain ⟨u, e, _⟩ := h2.get (i := i) (d := ds[i]'hi) (List.getElem?_eq_getElem hi)
    exact ⟨vs, u, h1, e⟩
  yld := fun i w' S' v H' d l s' gk hd y => by
    obtain ⟨vs, h1, h2, _⟩ := h w' S' l s' gk
    obtain ⟨u, e, r⟩ := h2.get hd
    obtain ⟨rfl, y⟩ := y
    have z := y vs h1
    rw [e] at z
    cases z
    exact ⟨w', rfl, Le.refl _, s', r⟩
  stop := fun i w' S' l s' gk hi => by
    obtain ⟨vs, h1, h2, _⟩ := h w' S' l s' gk
    exact ⟨vs, h1, by rw [← h2.length]; exact hi⟩
theorem itr_tup {a : Addr} {ds : List D} {g : List (Nat × List D)} (hz : ds.length ≤ sizeLine) (h : Src K w g ds (fun H vs => SqT K H a vs)) : ItR K w ⟨ds, g⟩ (Itt K a) where
  len := hz
  go := fun i w' S' l s' gk hi => by
    obtain ⟨vs, h1, h2, _⟩ := h w' S' l s' gk
    obtain ⟨u, e, _⟩ := h2.get (i := i) (d := ds[i]'hi) (List.getElem?_eq_getElem hi)
    exact ⟨vs, u, h1, e⟩
  yld := fun i w' S' v H' d l s' gk hd y => by
    obtain ⟨vs, h1, h2, _⟩ := h w' S' l s' gk
    obtain ⟨u, e, r⟩ := h2.get hd
    obtain ⟨rfl, y⟩ := y
    have z := y vs h1
    rw [e] at z
    cases z
    exact ⟨w', rfl, Le.refl _, s', r⟩
  stop := fun i w' S' l s' gk hi => by
    obtain ⟨vs, h1, h2, _⟩ := h w' S' l s' gk
    exact ⟨vs, h1, by rw [← h2.length]; exact hi⟩
/-- the signs of a text -/
def signsD (z : Str) : List D := z.cps.toList.map fun c => .str ⟨#[c]⟩
theorem itr_str {z : Str} (hz : z.length ≤ sizeLine) : ItR K w ⟨signsD z, []⟩ (Its z) where
  len := by
    have e : (signsD z).length = z.length := by simp [signsD]; rfl
    show (signsD z).length ≤ _
    rw [e]
    exact hz
  go := fun i w' S' l s' gk hi => (by simpa [signsD] using hi : i < z.cps.size)
  yld := fun i w' S' v H' d l s' gk hd y => by
    obtain ⟨rfl, c, e, rfl⟩ := y
    refine ⟨w', rfl, Le.refl _, s', ?_⟩
    have hd' : (signsD z)[i]? = some d := hd
    simp only [signsD, List.getElem?_map, Array.getElem?_toList, e, Option.map_some, Option.some.injEq] at hd'
    subst hd'
    exact rfl
  stop := fun i w' S' l s' gk hi => (by simpa [signsD] using hi : z.cps.size ≤ i)
/-- for .. in e -/
def iterD (S : Store) (d : D) : Option ItS := match seqT d with
  | some it => some it
  | none => match seqL S d with
    | some it => some it
    | none => match d with
      | .str z => if z.length ≤ sizeLine then some ⟨signsD z, []⟩ else none
      | _ => none
def iPlain (m : EM) : IM := fun env S => (m env S).bind fun d S1 => match iterD S1 d with
  | some it => .ok it S1
  | none => .no
abbrev iAny (K : PySem.W.Frag) (te : TE) : TI := fun σ H Rr => te σ H fun u H1 => (∃ a, u = .ref a ∧ (∃ xs, SqL K H1 a xs) ∧ Rr (Itl K a) H1) ∨ (∃ a, u = .ref a ∧ (∃ xs, SqT K H1 a xs) ∧ Rr (Itt K a) H1) ∨ ∃ z, u = .str z ∧ Rr (Its z) H1
theorem simI_plain {m : EM} {Rr : It → Hp → Prop} (h : rdI K W x (iPlain m) σ H Rr) : iAny K (rd K W x m) σ H Rr := by
  obtain ⟨w, env, S, rfl, s, er, h⟩ := h
  refine ⟨w, env, S, rfl, s, er, h.bind.mono fun d S1 w1 l1 s1 h1 u ru => ?_⟩
  unfold iterD at h1
  cases e : seqT d with
  | some it =>
    simp only [e] at h1
    obtain ⟨a, rfl, h2, h3, h4⟩ := seqT_of s1 e ru
    exact .inr (.inl ⟨a, rfl, h2, h1 w1 (Le.refl _) s1 _ (itr_tup (h3.len s1 h4) h3)⟩)
  | none =>
    simp only [e] at h1
    cases e2 : seqL S1 d with
    | some it =>
      simp only [e2] at h1
      obtain ⟨a, rfl, h2, h3, h4⟩ := seqL_of s1 e2 ru
      exact .inl ⟨a, rfl, h2, h1 w1 (Le.refl _) s1 _ (itr_list (h3.len s1 h4) h3)⟩
    | none =>
      simp only [e2] at h1
      cases d with
      | str z =>
        cases (show u = _ from ru)
        simp only at h1
        by_cases hz : z.length ≤ sizeLine
        · simp only [if_pos hz] at h1
          exact .inr (.inr ⟨z, rfl, h1 w1 (Le.refl _) s1 _ (itr_str hz)⟩)
        · simp only [if_neg hz] at h1
          exact h1.elim
      | _ => exact h1.elim
/-- range(..) -/
def rngD : Nat → Int → Int → List D
  | 0, _, _ => []
  | n + 1, i, c => .int i :: rngD n (i + c) c
theorem rngD_len : ∀ (n : Nat) (i c : Int), (rngD n i c).length = n
  | 0, _, _ => rfl
  | n + 1, i, c => by simp [rngD, rngD_len n]
theorem rngD_get : ∀ (n : Nat) (i c : Int) (k : Nat), k < n → (rngD n i c)[k]? = some (.int (i + (k : Int) * c))
  | 0, _, _, k, h => by omega
  | n + 1, i, c, 0, _ => by simp [rngD]
  | n + 1, i, c, k + 1, h => by
    simp only [rngD, List.getElem?_cons_succ]
    rw [rngD_get n (i + c) c k (by omega)]
    congr 2
    rw [Int.natCast_succ, Int.add_mul]
    omega
theorem itr_rng {lo : Int} {n : Nat} (hz : n ≤ sizeLine) : ItR K w ⟨rngD n lo 1, []⟩ (Itr lo n) where
  len := by simpa [rngD_len] using hz
  go := fun i w' S' l s' gk hi => (by simpa [rngD_len] using hi : i < n)
  yld := fun i w' S' v H' d l s' gk hd y => by
    obtain ⟨rfl, rfl⟩ := y
    refine ⟨w', rfl, Le.refl _, s', ?_⟩
    have hi : i < n := by
      have q := (List.getElem?_eq_some_iff.mp hd).1
      simpa [rngD_len] using q
    have hd' : (rngD n lo 1)[i]? = some d := hd
    rw [rngD_get n lo 1 i hi] at hd'
    cases hd'
    show V.int _ = V.int _
    rw [Int.mul_one]
  stop := fun i w' S' l s' gk hi => (by simpa [rngD_len] using hi : n ≤ i)
theorem itr_rngC {lo c : Int} {n : Nat} (hz : n ≤ sizeLine) : ItR K w ⟨rngD n lo c, []⟩ (Itc lo c n) where
  len := by simpa [rngD_len] using hz
  go := fun i w' S' l s' gk hi => (by simpa [rngD_len] using hi : i < n)
  yld := fun i w' S' v H' d l s' gk hd y => by
    obtain ⟨rfl, rfl⟩ := y
    refine ⟨w', rfl, Le.refl _, s', ?_⟩
    have hi : i < n := by
      have q := (List.getElem?_eq_some_iff.mp hd).1
      simpa [rngD_len] using q
    have hd' : (rngD n lo c)[i]? = some d := hd
    rw [rngD_get n lo c i hi] at hd'
    cases hd'
    exact rfl
  stop := fun i w' S' l s' gk hi => (by simpa [rngD_len] using hi : n ≤ i)
def rB (i : Int) : Bool := decide (-8000000 ≤ i) && decide (i < 8000000)
theorem rB_ok0 {i : Int} (h : rB i = true) : -8000000 ≤ i ∧ i < 8000000 := by
  unfold rB at h
  simp only [Bool.and_eq_true, decide_eq_true_eq] at h
  omega
theorem rB_ok {i : Int} (h : rB i = true) : -(2 ^ 62) ≤ i ∧ i < 2 ^ 62 := by
  have := rB_ok0 h
  omega
theorem rB_sz {i j : Int} (h : rB i = true) (h' : rB j = true) : (j - i).toNat ≤ sizeLine := by
  have := rB_ok0 h
  have := rB_ok0 h'
  rw [sizeLine_eq]
  omega
def iRange (ms : List EM) : IM := fun env S => (aList ms env S).bind fun ds S1 => match ds with
  | [.int j] => if rB j then .ok ⟨rngD j.toNat 0 1, []⟩ S1 else .no
  | [.int i, .int j] => if rB i && rB j then .ok ⟨rngD (j - i).toNat i 1, []⟩ S1 else .no
  | _ => .no
theorem simI_range1 {m : EM} {Rr : It → Hp → Prop} (h : rdI K W x (iRange [m]) σ H Rr) : iRng1 (rdA K W x (aList [m])) σ H Rr := by
  obtain ⟨w, env, S, rfl, s, er, h⟩ := h
  refine ⟨w, env, S, rfl, s, er, (post_len h.bind).mono fun ds S1 w1 l1 s1 h1 vs rv => ?_⟩
  obtain ⟨hl, h1⟩ := h1
  match ds, hl, h1, rv with
  | [d], _, h1, rv =>
    obtain ⟨v, rfl, rv1⟩ := rv.one
    cases d with
    | int j =>
      cases (show v = _ from rv1)
      simp only at h1
      cases e : rB j with
      | false => simp only [e] at h1; exact h1.elim
      | true =>
        simp only [e] at h1
        obtain ⟨b1, b2⟩ := rB_ok e
        exact ⟨j, rfl, b1, b2, h1 w1 (Le.refl _) s1 _ (itr_rng (by have := rB_ok0 e; rw [sizeLine_eq]; omega))⟩
    | _ => exact h1.elim
theorem simI_range2 {m m2 : EM} {Rr : It → Hp → Prop} (h : rdI K W x (iRange [m, m2]) σ H Rr) : iRng2 (rdA K W x (aList [m, m2])) σ H Rr := by
  obtain ⟨w, env, S, rfl, s, er, h⟩ := h
  refine ⟨w, env, S, rfl, s, er, (post_len h.bind).mono fun ds S1 w1 l1 s1 h1 vs rv => ?_⟩
  obtain ⟨hl, h1⟩ := h1
  match ds, hl, h1, rv with
  | [d, d2], _, h1, rv =>
    obtain ⟨v, u, rfl, rv1, ru⟩ := rv.two
    clear rv
    cases d with
    | int i =>
      cases d2 with
      | int j =>
        cases (show v = _ from rv1); cases (show u = _ from ru)
        simp only at h1
        cases e : (rB i && rB j) with
        | false => simp only [e] at h1; exact h1.elim
        | true =>
          simp only [e] at h1
          obtain ⟨e1, e2⟩ := Bool.and_eq_true_iff.mp e
          obtain ⟨b1, b2⟩ := rB_ok e1
          obtain ⟨b3, b4⟩ := rB_ok e2
          exact ⟨i, j, rfl, ⟨b1, b2, b3, b4⟩, h1 w1 (Le.refl _) s1 _ (itr_rng (rB_sz e1 e2))⟩
      | _ => exact h1.elim
    | _ => exact h1.elim
/-- reversed(list) -/
def iRevD (ms : List EM) : IM := fun env S => (aList ms env S).bind fun ds S1 => match ds with
  | [d] => match seqL S1 d with
    | some it => .ok ⟨it.ds.reverse, it.g⟩ S1
    | none => .no
  | _ => .no
theorem itr_rev {a : Addr} {ds : List D} {g : List (Nat × List D)} {n : Nat} (hn : n = ds.length) (hz : ds.length ≤ sizeLine) (h : Src K w g ds (fun H vs => SqL K H a vs)) : ItR K w ⟨ds.reverse, g⟩ (Itv K a n) where
  len := by simpa using hz
  go := fun i w' S' l s' gk hi => by
    have hi' : i < ds.length := by simpa using hi
    obtain ⟨vs, h1, h2, _⟩ := h w' S' l s' gk
    have hj : n - 1 - i < ds.length := by omega
    obtain ⟨u, e, _⟩ := h2.get (i := n - 1 - i) (d := ds[n - 1 - i]'hj) (List.getElem?_eq_getElem hj)
    exact ⟨by omega, vs, u, h1, e⟩
  yld := fun i w' S' v H' d l s' gk hd y => by
    have hi' : i < ds.length := by
      have q := (List.getElem?_eq_some_iff.mp hd).1
      simpa using q
    obtain ⟨vs, h1, h2, _⟩ := h w' S' l s' gk
    have hd' : ds[n - 1 - i]? = some d := by
      have q : (ds.reverse)[i]? = some d := hd
      rw [List.getElem?_reverse hi'] at q
      rw [hn]
      exact q
    obtain ⟨u, e, r⟩ := h2.get hd'
    obtain ⟨rfl, y⟩ := y
    have z := y vs h1
    rw [e] at z
    cases z
    exact ⟨w', rfl, Le.refl _, s', r⟩
  stop := fun i w' S' l s' gk hi => by
    have hi' : ds.length ≤ i := by simpa using hi
    show n ≤ i
    omega
theorem simI_rev {m : EM} {Rr : It → Hp → Prop} (h : rdI K W x (iRevD [m]) σ H Rr) : iRev K (rdA K W x (aList [m])) σ H Rr := by
  obtain ⟨w, env, S, rfl, s, er, h⟩ := h
  refine ⟨w, env, S, rfl, s, er, (post_len h.bind).mono fun ds S1 w1 l1 s1 h1 vs rv => ?_⟩
  obtain ⟨hl, h1⟩ := h1
  match ds, hl, h1, rv with
  | [d], _, h1, rv =>
    obtain ⟨v, rfl, rv1⟩ := rv.one
    clear rv
    simp only at h1
    cases e : seqL S1 d with
    | none => simp only [e] at h1; exact h1.elim
    | some it =>
      simp only [e] at h1
      obtain ⟨a, rfl, ⟨us, h2⟩, h3, ho⟩ := seqL_of s1 e rv1
      obtain ⟨us2, k1, k2, kz⟩ := h3 w1 S1 (LeV.refl _) s1 ho
      exact ⟨a, us2, rfl, k1, h1 w1 (Le.refl _) s1 _ (itr_rev k2.length.symm (h3.len s1 ho) h3)⟩
/-- enumerate(list), zip(a, b): new pairs -/
def enumD : Nat → List D → List D
  | _, [] => []
  | k, d :: ds => .tup [.int (k : Int), d] :: enumD (k + 1) ds
theorem enumD_len : ∀ (k : Nat) (ds : List D), (enumD k ds).length = ds.length
  | _, [] => rfl
  | k, d :: ds => by simp [enumD, enumD_len (k + 1) ds]
theorem enumD_get : ∀ (k : Nat) (ds : List D) (i : Nat), (enumD k ds)[i]? = (ds[i]?).map fun d => .tup [.int ((k + i : Nat) : Int), d]
  | _, [], i => by simp [enumD]
  | k, d :: ds, 0 => by simp [enumD]
  | k, d :: ds, i + 1 => by
    simp only [enumD, List.getElem?_cons_succ]
    rw [enumD_get (k + 1) ds i]
    congr 1
    funext d
    rw [show k + 1 + i = k + (i + 1) by omega]
def zipD : List D → List D → List D
  | d :: ds, e :: es => .tup [d, e] :: zipD ds es
  | _, _ => []
theorem zipD_len : ∀ (ds es : List D), (zipD ds es).length = min ds.length es.length
  | [], _ => by simp [zipD]
  | _ :: _, [] => by simp [zipD]
  | d :: ds, e :: es => by simp [zipD, zipD_len ds es]
theorem zipD_get : ∀ (ds es : List D) (i : Nat) (d e : D), ds[i]? = some d → es[i]? = some e → (zipD ds es)[i]? = some (.tup [d, e])
  | [], _, _, _, _, h, _ => by simp at h
  | _ :: _, [], _, _, _, _, h => by simp at h
  | d :: ds, e :: es, 0, _, _, h, h' => by
    simp at h h'
    subst h h'
    rfl
  | d :: ds, e :: es, i + 1, _, _, h, h' => by
    simp only [zipD, List.getElem?_cons_succ] at h h' ⊢
    exact zipD_get ds es i _ _ h h'
/-- a new pair in a later world -/
theorem pair_new {w' : Wd} {S' : Store} {T : Addr} {d e : D} {u v : V} (s : SR K w' S') (hT : w'.H T = none) (r : Rep K w' d u) (r' : Rep K w' e v) :
    ∃ w2, w2.H = upd w'.H T (.tup [u, v]) ∧ Le w' w2 ∧ SR K w2 S' ∧ Rep K w2 (.tup [d, e]) (.ref T) := by
  have h2 : 2 ≤ sizeLine := size1000 (by decide)
  have l := le_tp (o := .tup [u, v]) s hT
  exact ⟨w'.tp T (.tup [u, v]), rfl, l, sr_tp s hT, T, [u, v], rfl, upd_same, h2, u, [v], rfl, rep_le l _ _ r, v, [], rfl, rep_le l _ _ r', rfl⟩
theorem itr_enum {a : Addr} {ds : List D} {g : List (Nat × List D)} (hz : ds.length ≤ sizeLine) (h : Src K w g ds (fun H vs => SqL K H a vs)) : ItR K w ⟨enumD 0 ds, g⟩ (Ite K a) where
  len := by simpa [enumD_len] using hz
  go := fun i w' S' l s' gk hi => by
    have hi' : i < ds.length := by simpa [enumD_len] using hi
    obtain ⟨vs, h1, h2, _⟩ := h w' S' l s' gk
    obtain ⟨u, e, _⟩ := h2.get (i := i) (d := ds[i]'hi') (List.getElem?_eq_getElem hi')
    exact ⟨vs, u, h1, e⟩
  yld := fun i w' S' v H' d l s' gk hd y => by
    obtain ⟨vs, h1, h2, _⟩ := h w' S' l s' gk
    have hd' : (enumD 0 ds)[i]? = some d := hd
    rw [enumD_get] at hd'
    obtain ⟨d0, e0, rfl⟩ := map_some hd'
    obtain ⟨u, e, r⟩ := h2.get e0
    obtain ⟨T, u', rfl, hT, rfl, y⟩ := y
    have z := y vs h1
    rw [e] at z
    cases z
    rw [Nat.zero_add]
    exact pair_new s' hT (rfl : Rep K w' (.int ((i : Nat) : Int)) (.int ((i : Nat) : Int))) r
  stop := fun i w' S' l s' gk hi => by
    obtain ⟨vs, h1, h2, _⟩ := h w' S' l s' gk
    exact ⟨vs, h1, by rw [← h2.length]; simpa [enumD_len] using hi⟩
end
/-! ### loops -/
open Classical in
noncomputable def loopF (it : ItS) (body : D → Env → Store → SO) (els : SM) : List D → Env → Store → SO
  | [], env, S => if gOk S it then els env S else .no
  | d :: ds, env, S => if gOk S it then (match body d env S with
    | .nx env' S' => loopF it body els ds env' S'
    | .ct env' S' => loopF it body els ds env' S'
    | .bk env' S' => .nx env' S'
    | r => r) else .no
/-- a turn: the target, then the body -/
def turnF (g : GF) (body : SM) : D → Env → Store → SO := fun d env S => match g d env S with
  | .ok env' S' => body env' S'
  | _ => .no
noncomputable def sFor (im : IM) (g : GF) (body els : SM) : SM := fun env S => (im env S).then env fun it S' => loopF it (turnF g body) els it.ds env S'
section
variable {K : PySem.W.Frag} {W : WX} {x : Xc} {D : Ends} {σ : L2.St} {H : Hp}
theorem simS_for {im : IM} {g : GF} {sl : List Nat} {body els : SM} (h : rdS K W x (sFor im g body els) D σ H) : tForE (rdI K W x im) (rdG K x sl g) (rdS K W x body) (rdS K W x els) D σ H := by
  obtain ⟨w, env, S, rfl, s, er, h⟩ := h
  refine ⟨w, env, S, rfl, s, er, (PostS.then er h).mono fun it S1 w1 l1 s1 h1 J hJ => ?_⟩
  refine ⟨fun i m σ' H' => m = it.ds.length - i ∧ i ≤ it.ds.length ∧ ∃ w' env' S', w'.H = H' ∧ Le w1 w' ∧ SR K w' S' ∧ EnvR K x w' env' σ' ∧ PostS K W x w' (loopF it (turnF g body) els (it.ds.drop i) env' S') D,
    ⟨_, rfl, Nat.zero_le _, w1, env, S1, rfl, Le.refl _, s1, er.le l1, h1⟩, ?_⟩
  rintro i m σ' H' ⟨rfl, hi, w', env', S', rfl, l', s', er', h'⟩
  by_cases hlt : i < it.ds.length
  · rw [List.drop_eq_getElem_cons hlt] at h'
    simp only [loopF] at h'
    by_cases gk : gOk S' it
    · rw [if_pos gk] at h'
      refine .inr ⟨hJ.go i w' S' l'.toLeV s' gk hlt, fun σ2 H2 => ∃ w2 env2 S2, w2.H = H2 ∧ Le w1 w2 ∧ SR K w2 S2 ∧ EnvR K x w2 env2 σ2 ∧ PostS K W x w2 (loopF it (turnF g body) els (it.ds.drop (i + 1)) env2 S2) D,
        fun σ2 H2 ⟨w2, env2, S2, a1, a2, a3, a4, a5⟩ => ⟨it.ds.length - (i + 1), by omega, rfl, hlt, w2, env2, S2, a1, a2, a3, a4, a5⟩, fun v H2 y => ?_⟩
      obtain ⟨w2, rfl, l2, s2, rv⟩ := hJ.yld i w' S' v H2 (it.ds[i]) l'.toLeV s' gk (List.getElem?_eq_getElem hlt) y
      refine ⟨w2, env', S', it.ds[i], rfl, s2, er'.le l2, rv, ?_⟩
      have h2 := PostS.le l2 h'
      clear h'
      unfold turnF at h2
      cases eg : g (it.ds[i]) env' S' with
      | er y S3 => rw [eg] at h2; exact h2.elim
      | no => rw [eg] at h2; exact h2.elim
      | ok env3 S3 =>
        rw [eg] at h2
        intro w3 l3 s3 σ3 er3 so
        refine ⟨w3, env3, S3, rfl, s3, er3, ?_⟩
        have h3 := PostS.le l3 h2
        clear h2
        simp only at h3
        have l13 : Le w1 w3 := (l'.trans l2).trans l3
        cases eb : body env3 S3 with
        | nx env4 S4 => simp only [eb] at h3; exact fun w4 σ4 l4 s4 er4 => ⟨w4, env4, S4, rfl, l13.trans l4, s4, er4, PostS.le l4 h3⟩
        | ct env4 S4 => simp only [eb] at h3; exact fun w4 σ4 l4 s4 er4 => ⟨w4, env4, S4, rfl, l13.trans l4, s4, er4, PostS.le l4 h3⟩
        | bk env4 S4 => simp only [eb] at h3; exact h3
        | rt d S4 => simp only [eb] at h3; exact h3
        | er y env4 S4 => simp only [eb] at h3; exact h3
        | no => simp only [eb] at h3; exact h3
    · rw [if_neg gk] at h'
      exact h'.elim
  · have e : i = it.ds.length := by omega
    subst e
    rw [List.drop_length] at h'
    simp only [loopF] at h'
    by_cases gk : gOk S' it
    · rw [if_pos gk] at h'
      exact .inl ⟨hJ.stop _ w' S' l'.toLeV s' gk (Nat.le_refl _), w', env', S', rfl, s', er', h'⟩
    · rw [if_neg gk] at h'
      exact h'.elim
/-! ### while -/
def whileF (t : BM) (body els : SM) : Nat → SM
  | 0, _, _ => .no
  | n + 1, env, S => (t env S).then env fun k S' => if k then (match body env S' with
    | .nx env' S'' => whileF t body els n env' S''
    | .ct env' S'' => whileF t body els n env' S''
    | .bk env' S'' => .nx env' S''
    | r => r) else els env S'
/-- so many turns at most as the proof shows to be enough -/
noncomputable def sWhile (t : BM) (body els : SM) : SM := fun env S => by
  classical
  exact if h : ∃ n, whileF t body els n env S ≠ .no then whileF t body els h.choose env S else .no
theorem whileF_mono {t : BM} {body els : SM} : ∀ {n : Nat} {env : Env} {S : Store}, whileF t body els n env S ≠ .no → ∀ m, whileF t body els (n + m) env S = whileF t body els n env S
  | 0, env, S, h, _ => absurd rfl h
  | n + 1, env, S, h, m => by
    rw [show n + 1 + m = (n + m) + 1 by omega]
    simp only [whileF] at h ⊢
    cases e : t env S with
    | er y S' => rfl
    | no => rfl
    | ok k S' =>
      simp only [e, R.then_ok] at h ⊢
      cases k with
      | false => rfl
      | true =>
        simp only [if_true] at h ⊢
        cases eb : body env S' with
        | nx env' S'' => simp only [eb] at h ⊢; exact whileF_mono h m
        | ct env' S'' => simp only [eb] at h ⊢; exact whileF_mono h m
        | _ => rfl
theorem sWhile_eq {t : BM} {body els : SM} {env : Env} {S : Store} (n : Nat) (h : whileF t body els n env S ≠ .no) : sWhile t body els env S = whileF t body els n env S := by
  unfold sWhile
  have hx : ∃ n, whileF t body els n env S ≠ .no := ⟨n, h⟩
  rw [dif_pos hx]
  have h1 := whileF_mono hx.choose_spec n
  have h2 := whileF_mono h hx.choose
  rw [Nat.add_comm] at h2
  exact h1.symm.trans h2
theorem sWhile_fuel {t : BM} {body els : SM} {env : Env} {S : Store} (h : sWhile t body els env S ≠ .no) : ∃ n, sWhile t body els env S = whileF t body els n env S := by
  by_cases hx : ∃ n, whileF t body els n env S ≠ .no
  · obtain ⟨n, hn⟩ := hx
    exact ⟨n, sWhile_eq n hn⟩
  · unfold sWhile at h
    rw [dif_neg hx] at h
    exact absurd rfl h
theorem simS_while {t : BM} {body els : SM} (h : rdS K W x (sWhile t body els) D σ H) : tWhileW (wT (rdB K W x t)) (rdS K W x body) (rdS K W x els) D σ H := by
  obtain ⟨w, env, S, rfl, s, er, h⟩ := h
  have hn : sWhile t body els env S ≠ .no := fun z => by rw [z] at h; exact h
  obtain ⟨n, en⟩ := sWhile_fuel hn
  rw [en] at h
  refine ⟨fun m σ' H' => ∃ w' env' S', w'.H = H' ∧ SR K w' S' ∧ EnvR K x w' env' σ' ∧ PostS K W x w' (whileF t body els m env' S') D, ⟨n, w, env, S, rfl, s, er, h⟩, ?_⟩
  rintro m σ' H' ⟨w', env', S', rfl, s', er', h'⟩
  cases m with
  | zero => exact h'.elim
  | succ m =>
    simp only [whileF] at h'
    refine ⟨w', env', S', rfl, s', er', (PostS.then er' h').mono fun k S1 w1 l1 s1 h1 => ?_⟩
    cases k with
    | false => exact ⟨w1, env', S1, rfl, s1, er'.le l1, h1⟩
    | true =>
      refine ⟨fun σ2 H2 => ∃ w2 env2 S2, w2.H = H2 ∧ SR K w2 S2 ∧ EnvR K x w2 env2 σ2 ∧ PostS K W x w2 (whileF t body els m env2 S2) D, fun σ2 H2 a => ⟨m, Nat.lt_succ_self _, a⟩, ?_⟩
      refine ⟨w1, env', S1, rfl, s1, er'.le l1, ?_⟩
      simp only [if_true] at h1
      cases eb : body env' S1 with
      | nx env4 S4 => simp only [eb] at h1; exact fun w4 σ4 l4 s4 er4 => ⟨w4, env4, S4, rfl, s4, er4, PostS.le l4 h1⟩
      | ct env4 S4 => simp only [eb] at h1; exact fun w4 σ4 l4 s4 er4 => ⟨w4, env4, S4, rfl, s4, er4, PostS.le l4 h1⟩
      | bk env4 S4 => simp only [eb] at h1; exact h1
      | rt d S4 => simp only [eb] at h1; exact h1
      | er y env4 S4 => simp only [eb] at h1; exact h1
      | no => simp only [eb] at h1; exact h1
end
end EV
/-! ## A7 -/
set_option Elab.async false
set_option linter.all false
set_option maxRecDepth 100000
set_option maxHeartbeats 2000000
/-! Part 7: comprehensions. -/
namespace EV
open PySem PySem.Spec
open PyProof.Rows hiding St
open L2
/-- within a block nothing may be raised -/
abbrev W0 : WX := fun _ _ _ _ => False
def wipeE (env : Env) : List Nat → Env
  | [] => env
  | v :: vs => (wipeE env vs).set v none
theorem wipeE_len (env : Env) : ∀ vs : List Nat, (wipeE env vs).length = env.length
  | [] => rfl
  | v :: vs => by simp [wipeE, wipeE_len env vs]
theorem wipeE_some {env : Env} {i : Nat} {d : D} : ∀ {vs : List Nat}, (wipeE env vs)[i]? = some (some d) → env[i]? = some (some d) ∧ i ∉ vs
  | [], h => ⟨h, by simp⟩
  | v :: vs, h => by
    unfold wipeE at h
    by_cases hi : v = i
    · subst hi
      by_cases hv : v < (wipeE env vs).length
      · rw [List.getElem?_set_self hv] at h; cases h
      · rw [List.getElem?_eq_none (by simpa using hv)] at h; cases h
    · rw [List.getElem?_set_ne hi] at h
      obtain ⟨h1, h2⟩ := wipeE_some h
      exact ⟨h1, by simp only [List.mem_cons, not_or]; exact ⟨fun e => hi e.symm, h2⟩⟩
section
variable {K : PySem.W.Frag} {x : Xc} {w : Wd} {env : Env} {σ σ' : L2.St}
theorem wipe_out' {i : Nat} : ∀ {vs : List Nat}, i ∉ vs → (wipe σ vs)[i]? = σ[i]?
  | [], _ => rfl
  | v :: vs, h => by
    simp only [List.mem_cons, not_or] at h
    unfold wipe
    rw [List.getElem?_set_ne (fun e => h.1 e.symm)]
    exact wipe_out' h.2
theorem EnvR.wipe (er : EnvR K x w env σ) (vs : List Nat) : EnvR K x w (wipeE env vs) (L2.wipe σ vs) := by
  refine ⟨by rw [wipeE_len, wipe_length, er.len], fun j d h => ?_⟩
  obtain ⟨h1, h2⟩ := wipeE_some h
  rw [wipe_out' h2]
  exact er.at_ j d h1
theorem wipe_in {i : Nat} : ∀ {vs : List Nat}, i ∈ vs → i < σ.length → (wipe σ vs)[i]? = some none
  | [], h, _ => nomatch h
  | v :: vs, h, hl => by
    unfold wipe
    by_cases e : v = i
    · subst e
      rw [List.getElem?_set_self (by rw [wipe_length]; exact hl)]
    · rw [List.getElem?_set_ne e]
      exact wipe_in ((List.mem_cons.mp h).resolve_left fun z => e z.symm) hl
theorem wipe_same {sl vs : List Nat} (so : SameOut sl (wipe σ vs) σ') (hs : ∀ j ∈ sl, j ∈ vs) : wipe σ' vs = wipe σ vs := by
  refine List.ext_getElem? fun i => ?_
  have hl : σ'.length = σ.length := by rw [so.len, wipe_length]
  by_cases hi : i ∈ vs
  · by_cases hlt : i < σ.length
    · rw [wipe_in hi (by rw [hl]; exact hlt), wipe_in hi hlt]
    · rw [List.getElem?_eq_none (by rw [wipe_length, hl]; omega), List.getElem?_eq_none (by rw [wipe_length]; omega)]
  · rw [wipe_out' hi, so.at_ i fun z => hi (hs i z)]
end
/-- the loop of a comprehension: f gives the item, or none where a test fails -/
noncomputable def compF {α : Type} (it : ItS) (f : D → Store → R (Option α)) : List D → List α → Store → R (List α)
  | [], acc, S => by classical exact if gOk S it then .ok acc S else .no
  | d :: ds, acc, S => by classical exact if gOk S it then (match f d S with
    | .ok (some y) S' => compF it f ds (acc ++ [y]) S'
    | .ok none S' => compF it f ds acc S'
    | _ => .no) else .no
/-- one item: target, test, element, at the wiped slots -/
def itemF {α : Type} (g : GF) (t : BM) (e : Env → Store → R α) (env : Env) : D → Store → R (Option α) := fun d S => match g d env S with
  | .ok env' S1 => match t env' S1 with
    | .ok true S2 => (e env' S2).bind fun y S3 => .ok (some y) S3
    | .ok false S2 => .ok none S2
    | _ => .no
  | _ => .no
def bYes : BM := fun _ S => .ok true S
noncomputable def eComp (c : Bool) (im : IM) (g : GF) (t : BM) (e : EM) (vs : List Nat) : EM := fun env S => (im env S).bind fun it S1 => (compF it (itemF g t e (wipeE env vs)) it.ds [] S1).bind fun ds S2 => mkL c ds S2
section
variable {K : PySem.W.Frag} {W : WX} {x : Xc} {σ : L2.St} {H : Hp} {Q : VK}
theorem sim_yes {QB : Bool → Hp → Prop} (h : rdB K W x bYes σ H QB) : tYes σ H QB := by
  obtain ⟨w, env, S, rfl, s, er, h⟩ := h
  exact h w (Le.refl _) s
/-- an object of ours that no value names: it stands apart -/
structure Own (w : Wd) (p : Addr) (o : HO) : Prop where
  at_ : w.H p = some o
  nf : ¬ w.fz p
  ni : p ∉ w.ι
theorem Own.le {w w' : Wd} {p : Addr} {o : HO} (h : Own w p o) (l : Le w w') : Own w' p o := by
  obtain ⟨h1, h2, h3⟩ := l.prv p o h.at_ h.nf h.ni
  exact ⟨h1, h2, h3⟩
/-- our own object is changed -/
def Wd.up (w : Wd) (p : Addr) (o : HO) : Wd := ⟨w.ι, w.fz, upd w.H p o⟩
theorem own_leV {w : Wd} {S : Store} {p : Addr} {o u : HO} (h : Own w p o) (ht : ∀ xs, o ≠ .tup xs) (hf : ∀ b z, o ≠ .frz b z) : LeV w (w.up p u) := by
  have ne : ∀ a, w.fz a → a ≠ p := fun a z e => h.nf (e ▸ z)
  refine ⟨⟨[], by simp [Wd.up]⟩, fun _ z => z, fun a z => upd_ne (ne a z), fun a xs z => (upd_ne fun e => ?_).trans z, fun a o' u' z => (upd_ne fun e => ?_).trans z⟩
  · rw [e, h.at_] at z
    exact ht xs (Option.some.inj z)
  · rw [e, h.at_] at z
    exact hf o' u' (Option.some.inj z)
theorem own_sr {w : Wd} {S : Store} {p : Addr} {o u : HO} (s : SR K w S) (h : Own w p o) (ht : ∀ xs, o ≠ .tup xs) (hf : ∀ b z, o ≠ .frz b z) : SR K (w.up p u) S := by
  have ne : ∀ {a}, w.fz a → a ≠ p := fun {a} z e => h.nf (by rw [← e]; exact z)
  have ni : ∀ {a}, a ∈ w.ι → a ≠ p := fun {a} z e => h.ni (by rw [← e]; exact z)
  refine ⟨s.len, fun l c q => ?_, s.inj, fun a z => ?_, fun a z => ?_⟩
  · obtain ⟨a, k1, k2, k3⟩ := s.cell l c q
    have na : a ≠ p := fun e => h.ni (e ▸ List.mem_of_getElem? k1)
    exact ⟨a, k1, k2, cell_leV (own_leV (S := S) h ht hf) (upd_ne na) k3⟩
  · obtain ⟨o', e⟩ := s.fzt a z
    exact ⟨o', (upd_ne (ne z)).trans e⟩
  · obtain ⟨o', e⟩ := s.iot a z
    exact ⟨o', (upd_ne (ni z)).trans e⟩
theorem own_up {w : Wd} {p : Addr} {o u : HO} (h : Own w p o) : Own (w.up p u) p u := ⟨upd_same, h.nf, h.ni⟩
/-- from before our object was there, all that happens but to it is a step -/
theorem own_le {w0 w : Wd} {p : Addr} {o u : HO} (hp : w0.H p = none) (h : Own w p o) (l : Le w0 w) : Le w0 (w.up p u) := by
  have ne : ∀ a o, w0.H a = some o → a ≠ p := fun a o z e => by rw [e, hp] at z; cases z
  have nf : ∀ {a}, w.fz a → a ≠ p := fun {a} z e => h.nf (by rw [← e]; exact z)
  refine ⟨⟨l.io, l.fz, fun a z => ?_, fun a xs z => (upd_ne (ne a _ z)).trans (l.tup a xs z), fun a o' u' z => (upd_ne (ne a _ z)).trans (l.frz a o' u' z)⟩, fun a o' z1 z2 z3 => ?_⟩
  · exact (upd_ne (nf (l.fz a z))).trans (l.fzH a z)
  · obtain ⟨k1, k2, k3⟩ := l.prv a o' z1 z2 z3
    exact ⟨(upd_ne (ne a _ z1)).trans k1, k2, k3⟩
theorem Own.fresh {w : Wd} {S : Store} {p : Addr} {o : HO} (s : SR K w S) (hp : w.H p = none) : Own (w.tp p o) p o := ⟨upd_same, s.nfz hp, s.nio hp⟩
/-- our object is handed out: it stands still | a cell -/
theorem own_mkL {w0 w : Wd} {S : Store} {c : Bool} {ds : List D} {vs : List V} {p : Addr} (s : SR K w S) (hp : w0.H p = none) (h : Own w p (.lst vs)) (l : Le w0 w) (r : RepL K w ds vs) (hz : vs.length ≤ sizeLine)
    (hP : Post K W σ w0 (mkL c ds S) (fun d _ w' => ∀ v, Rep K w' d v → Q v w'.H)) : Q (.ref p) w.H := by
  have ne : ∀ a o, w0.H a = some o → a ≠ p := fun a o z e => by rw [e, hp] at z; cases z
  have nt : ∀ xs, HO.lst vs ≠ .tup xs := fun _ z => nomatch z
  cases c with
  | false =>
    have lv : LeV w ⟨w.ι, fun a => w.fz a ∨ a = p, w.H⟩ := ⟨⟨[], by simp⟩, fun _ z => .inl z, fun _ _ => rfl, fun _ _ z => z, fun _ _ _ z => z⟩
    have l2 : Le w0 ⟨w.ι, fun a => w.fz a ∨ a = p, w.H⟩ := by
      refine ⟨⟨l.io, fun a z => .inl (l.fz a z), l.fzH, l.tup, l.frz⟩, fun a o z1 z2 z3 => ?_⟩
      obtain ⟨k1, k2, k3⟩ := l.prv a o z1 z2 z3
      exact ⟨k1, fun z => z.elim k2 (ne a o z1), k3⟩
    have s2 : SR K ⟨w.ι, fun a => w.fz a ∨ a = p, w.H⟩ S := by
      refine ⟨s.len, fun l c q => ?_, s.inj, fun a z => ?_, s.iot⟩
      · obtain ⟨a, k1, k2, k3⟩ := s.cell l c q
        exact ⟨a, k1, fun z => z.elim k2 fun e => h.ni (e ▸ List.mem_of_getElem? k1), cell_leV lv rfl k3⟩
      · rcases z with z | z
        · exact s.fzt a z
        · exact ⟨_, by rw [z]; exact h.at_⟩
    exact hP _ l2 s2 (.ref p) ⟨p, vs, rfl, .inr rfl, h.at_, hz, repL_leV lv _ _ r⟩
  | true =>
    have lv : LeV w ⟨w.ι ++ [p], w.fz, w.H⟩ := ⟨⟨[p], rfl⟩, fun _ z => z, fun _ _ => rfl, fun _ _ z => z, fun _ _ _ z => z⟩
    have l2 : Le w0 ⟨w.ι ++ [p], w.fz, w.H⟩ := by
      refine ⟨⟨?_, l.fz, l.fzH, l.tup, l.frz⟩, fun a o z1 z2 z3 => ?_⟩
      · obtain ⟨t, e⟩ := l.io
        exact ⟨t ++ [p], by show w.ι ++ [p] = _; rw [e, List.append_assoc]⟩
      · obtain ⟨k1, k2, k3⟩ := l.prv a o z1 z2 z3
        exact ⟨k1, k2, fun z => (List.mem_append.mp z).elim k3 fun z => ne a o z1 (List.mem_singleton.mp z)⟩
    have hlt : ∀ {l : Nat} {c' : Cell}, (S ++ [some (Cell.lst ds)])[l]? = some (some c') → (l < S.length ∧ S[l]? = some (some c')) ∨ (l = S.length ∧ c' = .lst ds) := fun {l c'} q => by
      by_cases hl : l < S.length
      · rw [List.getElem?_append_left hl] at q
        exact .inl ⟨hl, q⟩
      · rw [List.getElem?_append_right (by omega)] at q
        have e : l - S.length = 0 := by
          have := (List.getElem?_eq_some_iff.mp q).1
          simp at this
          omega
        rw [e] at q
        simp at q
        exact .inr ⟨by omega, q.symm⟩
    have last : (w.ι ++ [p])[S.length]? = some p := by
      rw [List.getElem?_append_right (by rw [s.len]; exact Nat.le_refl _), s.len, Nat.sub_self]
      rfl
    have ixo : ∀ {l : Nat} {a : Addr}, l < S.length → (w.ι ++ [p])[l]? = some a → w.ι[l]? = some a := fun {l a} hl q => by
      rw [List.getElem?_append_left (by rw [s.len]; exact hl)] at q
      exact q
    have s2 : SR K ⟨w.ι ++ [p], w.fz, w.H⟩ (S ++ [some (.lst ds)]) := by
      refine ⟨by simp [s.len], fun l c' q => ?_, fun l l' c1 c2 a q1 q2 q3 q4 => ?_, s.fzt, fun a z => ?_⟩
      · rcases hlt q with ⟨hl, q⟩ | ⟨rfl, rfl⟩
        · obtain ⟨a, k1, k2, k3⟩ := s.cell l c' q
          exact ⟨a, lv.ix k1, k2, cell_leV lv rfl k3⟩
        · exact ⟨p, last, h.nf, vs, h.at_, hz, repL_leV lv _ _ r⟩
      · rcases hlt q1 with ⟨hl, q1⟩ | ⟨rfl, rfl⟩
        · rcases hlt q2 with ⟨hl', q2⟩ | ⟨rfl, rfl⟩
          · exact s.inj l l' c1 c2 a q1 q2 (ixo hl q3) (ixo hl' q4)
          · have z : (w.ι ++ [p])[S.length]? = some a := q4
            rw [last] at z
            cases z
            exact absurd (List.mem_of_getElem? (ixo hl q3)) h.ni
        · rcases hlt q2 with ⟨hl', q2⟩ | ⟨rfl, rfl⟩
          · have z : (w.ι ++ [p])[S.length]? = some a := q3
            rw [last] at z
            cases z
            exact absurd (List.mem_of_getElem? (ixo hl' q4)) h.ni
          · rfl
      · rcases List.mem_append.mp z with z | z
        · exact s.iot a z
        · exact ⟨_, by rw [List.mem_singleton.mp z]; exact h.at_⟩
    exact hP _ l2 s2 (.ref p) ⟨p, rfl, last⟩
/-- a part that raises nothing, in a block -/
theorem post_w0 {α : Type} {w : Wd} {r : R α} {P : α → Store → Wd → Prop} (h : PostN K w r P) : Post K W0 σ w r P := h.post
theorem sim_comp {c : Bool} {im : IM} {g : GF} {t : BM} {e : EM} {vs sl : List Nat} (hs : ∀ j ∈ sl, j ∈ vs) (h : rd K W x (eComp c im g t e vs) σ H Q) :
    tLc (rdI K W x im) (rdG K x sl g) (rdB K W0 x t) (rd K W0 x e) vs σ H Q := by
  obtain ⟨w, env, S, rfl, s, er, h⟩ := h
  refine ⟨w, env, S, rfl, s, er, h.bind.mono fun it S1 w1 l1 s1 h1 J hJ p hp => ?_⟩
  -- the state behind i turns
  refine ⟨fun i m H' => m = it.ds.length - i ∧ i ≤ it.ds.length ∧ ∃ w' S' acc vsA, w'.H = H' ∧ Le w1 w' ∧ SR K w' S' ∧ Own w' p (.lst vsA) ∧ RepL K w' acc vsA ∧ acc.length ≤ i ∧
      Post K W σ w1 ((compF it (itemF g t e (wipeE env vs)) (it.ds.drop i) acc S').bind fun ds S2 => mkL c ds S2) (fun d _ w' => ∀ v, Rep K w' d v → Q v w'.H),
    ⟨_, rfl, Nat.zero_le _, w1.tp p (.lst []), S1, [], [], rfl, le_tp s1 hp, sr_tp s1 hp, Own.fresh s1 hp, rfl, Nat.le_refl _, h1⟩, ?_⟩
  rintro i m H' ⟨rfl, hi, w', S', acc, vsA, rfl, l', s', ow, ra, hal, h'⟩
  have hz : vsA.length ≤ sizeLine := by rw [← ra.length]; exact Nat.le_trans hal (Nat.le_trans hi hJ.len)
  by_cases hlt : i < it.ds.length
  · rw [List.drop_eq_getElem_cons hlt] at h'
    simp only [compF] at h'
    by_cases gk : gOk S' it
    · rw [if_pos gk] at h'
      refine .inr ⟨hJ.go i w' S' l'.toLeV s' gk hlt, fun H2 => ∃ w2 S2 acc2 vs2, w2.H = H2 ∧ Le w1 w2 ∧ SR K w2 S2 ∧ Own w2 p (.lst vs2) ∧ RepL K w2 acc2 vs2 ∧ acc2.length ≤ i + 1 ∧
          Post K W σ w1 ((compF it (itemF g t e (wipeE env vs)) (it.ds.drop (i + 1)) acc2 S2).bind fun ds S2 => mkL c ds S2) (fun d _ w' => ∀ v, Rep K w' d v → Q v w'.H),
        fun H2 a => ⟨it.ds.length - (i + 1), by omega, rfl, hlt, a⟩, fun v H2 y => ?_⟩
      obtain ⟨w2, rfl, l2, s2, rv⟩ := hJ.yld i w' S' v H2 (it.ds[i]) l'.toLeV s' gk (List.getElem?_eq_getElem hlt) y
      have erw : EnvR K x w2 (wipeE env vs) (wipe σ vs) := (((er.le l1).le l').le l2).wipe vs
      refine ⟨w2, wipeE env vs, S', it.ds[i], rfl, s2, erw, rv, ?_⟩
      unfold itemF at h'
      cases eg : g (it.ds[i]) (wipeE env vs) S' with
      | er y S3 => simp only [eg] at h'; exact h'.elim
      | no => simp only [eg] at h'; exact h'.elim
      | ok env3 S3 =>
        simp only [eg] at h'
        intro w3 l3 s3 σ3 er3 so
        refine ⟨wipe_same so hs, w3, env3, S3, rfl, s3, er3, ?_⟩
        have l13 : Le w1 w3 := (l'.trans l2).trans l3
        cases et : t env3 S3 with
        | er y S4 => simp only [et] at h'; exact h'.elim
        | no => simp only [et] at h'; exact h'.elim
        | ok b S4 =>
          simp only [et] at h'
          intro w4 l4 s4
          cases b with
          | false =>
            rw [if_neg Bool.false_ne_true]
            simp only at h'
            exact ⟨w4, S4, acc, vsA, rfl, l13.trans l4, s4, ((ow.le l2).le l3).le l4, repL_le ((l2.trans l3).trans l4) _ _ ra, by omega, h'⟩
          | true =>
            rw [if_pos rfl]
            simp only at h'
            refine ⟨w4, env3, S4, rfl, s4, er3.le l4, ?_⟩
            cases ee : e env3 S4 with
            | er y S5 => simp only [ee, R.bind_er] at h'; exact h'.elim
            | no => simp only [ee, R.bind_no] at h'; exact h'.elim
            | ok y S5 =>
              simp only [ee, R.bind_ok] at h'
              intro w5 l5 s5 u ru
              have l25 := ((l2.trans l3).trans l4).trans l5
              have ow5 := ow.le l25
              have ra5 := repL_le l25 _ _ ra
              refine ⟨vsA, ow5.at_, by rw [← ra.length]; exact Nat.lt_of_le_of_lt hal (Nat.lt_of_lt_of_le hlt hJ.len), ?_⟩
              have nt : ∀ xs, HO.lst vsA ≠ .tup xs := fun _ z => nomatch z
              have nf : ∀ b z, HO.lst vsA ≠ .frz b z := fun _ _ z => nomatch z
              have lv := own_leV (S := S5) (u := .lst (vsA ++ [u])) ow5 nt nf
              exact ⟨w5.up p (.lst (vsA ++ [u])), S5, acc ++ [y], vsA ++ [u], rfl, own_le hp ow5 (l13.trans (l4.trans l5)), own_sr s5 ow5 nt nf, own_up ow5,
                (repL_leV lv _ _ ra5).append ⟨u, [], rfl, rep_leV lv _ _ ru, rfl⟩, by simp; omega, h'⟩
    · rw [if_neg gk] at h'
      exact h'.elim
  · have e : i = it.ds.length := by omega
    subst e
    rw [List.drop_length] at h'
    simp only [compF] at h'
    by_cases gk : gOk S' it
    · rw [if_pos gk] at h'
      exact .inl ⟨hJ.stop _ w' S' l'.toLeV s' gk (Nat.le_refl _), own_mkL s' hp ow l' ra hz h'⟩
    · rw [if_neg gk] at h'
      exact h'.elim
end
end EV
/-! ## B0 -/
set_option Elab.async false
set_option linter.all false
set_option maxRecDepth 100000
set_option maxHeartbeats 2000000
/-! Part B0: enumerate(tuple). -/
namespace EV0
open PySem PySem.Spec
open PyProof.Rows hiding St
open L2
theorem new_enumT (t : Addr) (its : Array Value) (n : Nat) (dc : Option Addr) (sl : Array (Option Value)) :
    Meets (Builtin.«enumerate.__new__» ⟨[.type "enumerate", .ref t], []⟩) (fun _ R s => s.heap.get? t = some { cls := .type "tuple", dict := dc, data := .seq its n, slots := sl } ∧
      R (.ok (.ret (.ref (s.heap.push { cls := .type "tuple_iterator", data := .fields #[.ref t, .int 0 0] }).objs.size)))
        { s with heap := (s.heap.push { cls := .type "tuple_iterator", data := .fields #[.ref t, .int 0 0] }).push { cls := .type "enumerate", data := .fields #[.none, .bool false, .ref s.heap.objs.size, rawInt 0, .none, .none] } }) :=
  .of_wp fun prog w A R s h => by
    obtain ⟨hp, g, d, tk, os⟩ := s
    obtain ⟨ht, h⟩ := h
    have hsub := sub_enumerate
    have hT : Heap.IsTuple (Shared.heap ⟨hp, g, d, tk, os⟩) t its := ⟨_, ht, rfl, n, rfl⟩
    wp_walk using AutoSeq1.wpAny_loadPart' ht
    refine wpAny_stack_any fun st => wpAny_pure ?_
    split
    · rename_i c _ _ _ _ _
      cases (c == Value.type "enumerate") <;> (wp_walk using AutoSeq1.wpAny_loadPart' ht, wpAny_pyIter_tuple hT) <;> exact ⟨_, rfl, h⟩
    · wp_walk using AutoSeq1.wpAny_loadPart' ht, wpAny_pyIter_tuple hT
      exact ⟨_, rfl, h⟩
section
variable {prog : Program} {w : World} {A : Around} {E : Value → Shared → Prop} {s : Shared}
theorem call_enumT {t : Addr} {its : Array Value} {Q : Value → Shared → Prop} (hT : s.heap.IsTuple t its)
    (h : ∀ h', IsEnum h' (s.heap.objs.size + 1) s.heap.objs.size 0 .none → h'.IsTupleIter s.heap.objs.size t 0 → h'.objs.size = s.heap.objs.size + 2 →
      (∀ b o, s.heap.get? b = some o → h'.get? b = some o) → Q (.ref (s.heap.objs.size + 1)) { s with heap := h' }) :
    wpAny (model prog w) A (call (.type "enumerate") [.ref t]) Q E s := by
  obtain ⟨⟨c, dct, dt, sl⟩, hl, hc, n, hd⟩ := hT
  replace hc : c = .type "tuple" := hc
  replace hd : dt = .seq its n := hd
  subst hc hd
  refine callType_new F.called_enumerate (by decide) (F.typeCall_enumerate_1 _) (F.newCall_enumerate_1 _) (fun obj => F.args_object_init_2 obj _) F.entry_enumerate_new
    (new_enumT t its n dct sl) ⟨hl, ?_⟩
  have hz : (s.heap.push { cls := .type "tuple_iterator", data := .fields #[.ref t, .int 0 0] }).objs.size = s.heap.objs.size + 1 := Heap.size_push ..
  show _ ∧ _
  rw [hz]
  have he : IsEnum ((s.heap.push { cls := .type "tuple_iterator", data := .fields #[.ref t, .int 0 0] }).push
      { cls := .type "enumerate", data := .fields #[.none, .bool false, .ref s.heap.objs.size, rawInt 0, .none, .none] }) (s.heap.objs.size + 1) s.heap.objs.size 0 .none := by
    have q := Heap.get?_push_size (s.heap.push { cls := .type "tuple_iterator", data := .fields #[.ref t, .int 0 0] })
      (o := { cls := .type "enumerate", data := .fields #[.none, .bool false, .ref s.heap.objs.size, rawInt 0, .none, .none] }) rfl
    rw [hz] at q
    exact q
  refine ⟨⟨_, he, rfl⟩, h _ he ⟨_, Heap.get?_push_of_some _ (Heap.get?_push_size _ rfl), rfl, rfl⟩ (by rw [Heap.size_push, hz]) fun b o x => Heap.get?_push_of_some _ (Heap.get?_push_of_some _ x)⟩
end
/-- the tuple at a, each item in a new pair -/
def IteT (K : PySem.W.Frag) (a : Addr) : It :=
  ⟨fun i H => ∃ (xs : List V) (x : V), SqT K H a xs ∧ xs[i]? = some x, fun i H v H' => ∃ T x, v = .ref T ∧ H T = none ∧ H' = upd H T (.tup [.int (i : Nat), x]) ∧ ∀ xs, SqT K H a xs → xs[i]? = some x, fun i H => ∃ xs : List V, SqT K H a xs ∧ xs.length ≤ i⟩
theorem turn_enumT {P : Program} {w : World} {K : PySem.W.Frag} {elts : List Expr} {kk : Nat} {tpos : Pos} (a e it : Addr) :
    Turn P w K (.Tuple elts kk tpos) (IteT K a) [e, it] e (fun i h => (∃ old, IsEnum h e it ((i : Nat) : Int) old) ∧ h.IsTupleIter it a i ∧ e ≠ it ∧ a ≠ it ∧ e ≠ a) where
  mem := by simp
  obj := fun i h st b hb => by
    obtain ⟨⟨old, he⟩, ⟨o, ho, hc, hd⟩, _⟩ := st
    have e' : b = e ∨ b = it := by simpa using hb
    rcases e' with z | z
    · rw [z]; exact ⟨_, he, fun v q => nomatch q⟩
    · rw [z]; exact ⟨o, ho, fun v q => by rw [hd] at q; cases q⟩
  keep := fun i h h' st k => let ⟨⟨old, he⟩, hi, hne⟩ := st; ⟨⟨old, k e (by simp) _ he⟩, hi.at fun o q => k it (by simp) o q, hne⟩
  item := by
    intro X hP hw hK hc i pins s σ H E I hf st hg
    subst hP hw hK
    obtain ⟨⟨old, he⟩, hit, hne, hai, hea⟩ := st
    obtain ⟨xs, x, hq, hx⟩ := hg
    obtain ⟨its, rv, p, hz⟩ := I.tuple hq
    obtain ⟨u, hu, ru⟩ := rv.get hx
    have hel : e < s.heap.objs.size := Heap.lt_size he
    have hil : it < s.heap.objs.size := by obtain ⟨_, q, _⟩ := hit; exact Heap.lt_size q
    have hlt : i < its.toArray.size := by
      have q := (List.getElem?_eq_some_iff.mp hu).1
      simpa using q
    refine wpAny_pyNext_enum_itemD (Draws.tuple (A := X.A.in1) (I.ok.hd hc) it a hai its.toArray) he ⟨hit, p⟩ hlt hne (by simp; exact ⟨hne, hea⟩) fun x' h' tk hx' ho hst hT hsz hk => ?_
    have ex : x' = u := by
      have q : its.toArray[i]? = some u := by simpa using hu
      rw [hx'] at q
      exact Option.some.inj q
    subst ex
    refine ⟨_, rfl, wpAny_letOwnedTupleGo_enum (s := { s with heap := h', toks := tk + 1 }) ho fun h'' he' sb => ?_⟩
    have hT2 : h''.get? s.heap.objs.size = some { cls := .type "tuple", data := .seq #[.int i tk, x'] } := (sb.2 _ (Nat.ne_of_gt hel)).trans hT
    have new : ObjOk X.prog X.w (upd H s.heap.objs.size (.tup [.int (i : Nat), x])) h'' s.heap.objs.size (.tup [.int (i : Nat), x]) :=
      ⟨by show 2 ≤ sizeLine; decide, [.int i tk, x'], .cons ⟨_, rfl⟩ (.cons ru .nil), ⟨_, hT2, rfl, _, rfl⟩⟩
    have I1 : Inv X pins σ (upd H s.heap.objs.size (.tup [.int (i : Nat), x])) { s with heap := h'', toks := tk + 1 } :=
      I.turnedNew (ch := [e, it]) (fun b ob hb q => (sb.2 b (fun z => hb (by simp [z]))).trans (hk b ob (fun z => hb (by simp [z])) (fun z => hb (by simp [z])) q)) hf (Nat.le_refl _) new
    refine ⟨.ref s.heap.objs.size, _, I1, rfl, ⟨_, x, rfl, I.hok.fresh (Nat.le_refl _), rfl, fun ys hy => by rw [I.tuple_inj hy hq]; exact hx⟩, ⟨⟨x', ?_⟩, hst.1.at fun o q => (sb.2 it (Ne.symm hne)).trans q, hne, hai, hea⟩, fun b hb => ?_⟩
    · have e1 : ((i + 1 : Nat) : Int) = (i : Int) + 1 := by omega
      rw [e1]
      exact he'
    · have hb' : b < s.heap.objs.size := by
        have e' : b = e ∨ b = it := by simpa using hb
        rcases e' with z | z
        · rw [z]; exact hel
        · rw [z]; exact hil
      rw [upd_ne (Nat.ne_of_lt hb')]
      exact (hf b hb).1
  done := by
    intro X hP hw hK hc i pins s σ H E I hf st hg
    subst hP hw hK
    obtain ⟨⟨old, he⟩, hit, hne, hai, hea⟩ := st
    obtain ⟨xs, hq, hx⟩ := hg
    obtain ⟨its, rv, p, hz⟩ := I.tuple hq
    obtain ⟨f0, f1, f2, f3, f4, f5⟩ := hf it (by simp)
    have hl := rv.length
    have hT : s.TypeIs (.ref e) "enumerate" := ⟨_, he, rfl⟩
    have hh : X.A.handled = none := I.ok.hd hc
    unfold pyNext
    refine wpAny_bind (wpAny_attempt (wpAny_callSpecial?_slot (name := Str.ofString "__next__") hT F.slot_enumerate_next
      (wpAny_call_entry F.slot_enumerate_next hT F.entry_enumerate_next ?_ (F.args_enumerate_next_1 _))))
    show wpAny _ _ (field (.ref e) 2 >>= _) _ _ _
    refine wpAny_bind (wpAny_field he rfl (x := .ref it) rfl ?_)
    refine wpAny_bind (wpAny_nextOf_tuple_end (A := X.A.in1) hh hit p (by simp; omega) fun h' x he' hx' => ?_)
    obtain ⟨o, ho, hcls⟩ := hx'
    refine wpAny_bind (wpAny_isInstance (T := "StopIteration") (b := true) ⟨o, ho, hcls⟩ isSubtype_stop ?_)
    exact wpAny_pure ⟨rfl, I.turned (t' := s.toks) (fun b o hb q => he' b o hb q) f0 f1 f3 f4 f5⟩
  self := fun A i s Q E st h => let ⟨⟨_, he⟩, _⟩ := st; wpAny_pyIter_enum he h
def iEnumT (K : PySem.W.Frag) (ta : TA) : TI := fun σ H R => ta σ H fun vs H1 => ∃ a xs, vs = [.ref a] ∧ SqT K H1 a xs ∧ R (IteT K a) H1
def iOr (t u : TI) : TI := fun σ H R => t σ H R ∨ u σ H R
theorem pi_enumT {X : Cx} {e : Expr} {ta : TA} {p pos tpos : Pos} {elts : List Expr} {kk : Nat} (hg : Gl X "enumerate") (hm : X.mg "enumerate" = none) (ha : PA X [e] ta) (hs : starEach [e] X.env = [(false, eval e X.env)] := by rfl) :
    PI X (.Tuple elts kk tpos) (.Call (.Name "enumerate" p) [e] [] pos) (iEnumT X.K ta) := by
  refine ⟨fun pins s σ H R I h => ?_⟩
  refine Call_ (ld_blt I hg hm boot_enumerate (PyProof.Rows.callWith_type1 (thn (ha.run pos pins s σ H _ I h) fun us s1 ⟨vs, H1, I1, r1, q1⟩ => ?_) hs rfl))
  obtain ⟨a, xs, ex, hq, q⟩ := q1
  subst ex
  cases r1 with
  | cons r rr =>
    cases rr
    cases r
    obtain ⟨its, rv, p', hz⟩ := I1.tuple hq
    have hal : a < s1.heap.objs.size := p'.lt
    refine call_enumT p' fun h' he hit hsz hk => wpAny_pyIter_enum he ?_
    have I2 : Inv X pins σ H1 { s1 with heap := h' } := I1.kept (t' := s1.toks) hk
    refine ⟨s1.heap.objs.size + 1, [s1.heap.objs.size + 1, s1.heap.objs.size], _, _, H1, rfl, I2, turn_enumT a (s1.heap.objs.size + 1) s1.heap.objs.size, ⟨⟨.none, he⟩, hit, Nat.succ_ne_self _, Nat.ne_of_lt hal, Ne.symm (Nat.ne_of_lt (Nat.lt_succ_of_lt hal))⟩, fun b hb => ?_, q⟩
    have e' : b = s1.heap.objs.size + 1 ∨ b = s1.heap.objs.size := by simpa using hb
    have hle : s1.heap.objs.size ≤ b := by
      rcases e' with z | z
      · rw [z]; exact Nat.le_add_right _ _
      · rw [z]; exact Nat.le_refl _
    exact I1.fpOk hle (I1.hok.fresh hle)
theorem pi_or {X : Cx} {tg it : Expr} {t u : TI} (h : PI X tg it t) (h' : PI X tg it u) : PI X tg it (iOr t u) := ⟨fun pins s σ H R I q => by
  rcases q with q | q
  · exact h.run pins s σ H R I q
  · exact h'.run pins s σ H R I q⟩
end EV0
/-! ## A8 -/
set_option Elab.async false
set_option linter.all false
set_option maxRecDepth 100000
set_option maxHeartbeats 2000000
/-! Part 8: enumerate, zip; methods; what changes a cell. -/
namespace EV
open PySem PySem.Spec
open PyProof.Rows hiding St
open L2
/-! ### a cell is changed -/
section
variable {K : PySem.W.Frag} {w : Wd} {S : Store} {n : Nat} {c0 c : Cell} {a : Addr} {u : HO}
theorem cellO (h : CellR K w a c0) : ∃ o, w.H a = some o ∧ (∀ xs, o ≠ .tup xs) ∧ ∀ b z, o ≠ .frz b z := by
  cases c0 with
  | lst ds => obtain ⟨vs, h1, _⟩ := h; exact ⟨_, h1, (fun _ z => nomatch z), fun _ _ z => nomatch z⟩
  | dct t kvs =>
    cases t with
    | false => obtain ⟨vs, h1, _⟩ := h; exact ⟨_, h1, (fun _ z => nomatch z), fun _ _ z => nomatch z⟩
    | true => obtain ⟨vs, h1, _⟩ := h; exact ⟨_, h1, (fun _ z => nomatch z), fun _ _ z => nomatch z⟩
  | ins cc fs => obtain ⟨dx, vs, h1, _⟩ := h; exact ⟨_, h1, (fun _ z => nomatch z), fun _ _ z => nomatch z⟩
theorem cell_at (s : SR K w S) (h0 : S[n]? = some (some c0)) (ha : w.ι[n]? = some a) : ¬ w.fz a ∧ CellR K w a c0 := by
  obtain ⟨b, k1, k2, k3⟩ := s.cell n c0 h0
  rw [ha] at k1
  cases k1
  exact ⟨k2, k3⟩
theorem up_leV (s : SR K w S) (h0 : S[n]? = some (some c0)) (ha : w.ι[n]? = some a) : LeV w (w.up a u) := by
  obtain ⟨nf, cr⟩ := cell_at s h0 ha
  obtain ⟨o, ho, ht, hf⟩ := cellO cr
  have ne : ∀ b, w.fz b → b ≠ a := fun b z e => nf (by rw [← e]; exact z)
  refine ⟨⟨[], by simp [Wd.up]⟩, fun _ z => z, fun b z => upd_ne (ne b z), fun b xs z => (upd_ne fun e => ?_).trans z, fun b o' u' z => (upd_ne fun e => ?_).trans z⟩
  · rw [e, ho] at z
    exact ht xs (Option.some.inj z)
  · rw [e, ho] at z
    exact hf o' u' (Option.some.inj z)
theorem up_le (s : SR K w S) (h0 : S[n]? = some (some c0)) (ha : w.ι[n]? = some a) : Le w (w.up a u) := by
  refine ⟨up_leV s h0 ha, fun b o z1 z2 z3 => ⟨(upd_ne fun e => ?_).trans z1, z2, z3⟩⟩
  exact z3 (by rw [e]; exact List.mem_of_getElem? ha)
theorem set_cell {l : Nat} {c' : Cell} (h : (S.set n (some c))[l]? = some (some c')) : (l = n ∧ c' = c) ∨ (l ≠ n ∧ S[l]? = some (some c')) := by
  by_cases e : n = l
  · subst e
    by_cases hl : n < S.length
    · rw [List.getElem?_set_self hl] at h
      cases h
      exact .inl ⟨rfl, rfl⟩
    · rw [List.getElem?_eq_none (by simpa using hl)] at h
      cases h
  · rw [List.getElem?_set_ne e] at h
    exact .inr ⟨fun z => e z.symm, h⟩
theorem up_sr (s : SR K w S) (h0 : S[n]? = some (some c0)) (ha : w.ι[n]? = some a) (hc : CellR K (w.up a u) a c) : SR K (w.up a u) (S.set n (some c)) := by
  obtain ⟨nf, cr⟩ := cell_at s h0 ha
  have was : ∀ {l : Nat} {c' : Cell}, (S.set n (some c))[l]? = some (some c') → ∃ c1, S[l]? = some (some c1) := fun {l c'} h => by
    rcases set_cell h with ⟨e, _⟩ | ⟨_, h⟩
    · rw [e]; exact ⟨_, h0⟩
    · exact ⟨_, h⟩
  refine ⟨by rw [List.length_set]; exact s.len, fun l c' h => ?_, fun l l' c1 c2 b h1 h2 h3 h4 => ?_, fun b z => ?_, fun b z => ?_⟩
  · rcases set_cell h with ⟨e, e2⟩ | ⟨e, h⟩
    · rw [e, e2]
      exact ⟨a, ha, nf, hc⟩
    · obtain ⟨b, k1, k2, k3⟩ := s.cell l c' h
      have ne : b ≠ a := fun z => e (s.inj l n c' c0 a h h0 (by rw [← z]; exact k1) ha)
      exact ⟨b, k1, k2, cell_leV (up_leV s h0 ha) (upd_ne ne) k3⟩
  · obtain ⟨d1, q1⟩ := was h1
    obtain ⟨d2, q2⟩ := was h2
    exact s.inj l l' d1 d2 b q1 q2 h3 h4
  · obtain ⟨o, e⟩ := s.fzt b z
    exact ⟨o, (upd_ne fun q => nf (by rw [← q]; exact z)).trans e⟩
  · by_cases e : b = a
    · exact ⟨u, by rw [e]; exact upd_same⟩
    · obtain ⟨o, q⟩ := s.iot b z
      exact ⟨o, (upd_ne e).trans q⟩
theorem post_up {W : WX} {σ : L2.St} {d : D} {v : V} {Q : VK} (s : SR K w S) (h0 : S[n]? = some (some c0)) (ha : w.ι[n]? = some a) (hc : CellR K (w.up a u) a c) (hv : Rep K (w.up a u) d v)
    (h : Post K W σ w (.ok d (S.set n (some c))) (fun d _ w' => ∀ v, Rep K w' d v → Q v w'.H)) : Q v (upd w.H a u) := h (w.up a u) (up_le s h0 ha) (up_sr s h0 ha hc) v hv
end
/-! ### lists in cells -/
def cellL (S : Store) : D → Option (Nat × List D)
  | .loc n => match S[n]? with
    | some (some (.lst ds)) => some (n, ds)
    | _ => none
  | _ => none
theorem cellL_of {S : Store} {d : D} {n : Nat} {ds : List D} (h : cellL S d = some (n, ds)) : d = .loc n ∧ S[n]? = some (some (.lst ds)) := by
  cases d with
  | loc m =>
    simp only [cellL] at h
    cases e : S[m]? with
    | none => rw [e] at h; cases h
    | some o =>
      rw [e] at h
      cases o with
      | none => cases h
      | some c =>
        cases c with
        | lst es => cases h; exact ⟨rfl, e⟩
        | _ => cases h
  | _ => cases h
section
variable {K : PySem.W.Frag} {w : Wd} {S : Store}
/-- the list of a cell, and what it becomes -/
theorem mutL {d : D} {n : Nat} {ds : List D} {x : V} (s : SR K w S) (h : cellL S d = some (n, ds)) (r : Rep K w d x) : ∃ a vs, x = .ref a ∧ w.H a = some (.lst vs) ∧ RepL K w ds vs ∧ vs.length ≤ sizeLine ∧
    ∀ (W : WX) (σ : L2.St) (ds' : List D) (vs' : List V) (d' : D) (v' : V) (Q : VK), RepL K w ds' vs' → vs'.length ≤ sizeLine → Rep K w d' v' → Post K W σ w (.ok d' (S.set n (some (.lst ds')))) (fun d _ w' => ∀ v, Rep K w' d v → Q v w'.H) → Q v' (upd w.H a (.lst vs')) := by
  obtain ⟨rfl, h0⟩ := cellL_of h
  obtain ⟨a, rfl, ha⟩ := r
  obtain ⟨nf, vs, k1, kz, k2⟩ := cell_at s h0 ha
  refine ⟨a, vs, rfl, k1, k2, kz, fun W σ ds' vs' d' v' Q r1 hz r2 p => ?_⟩
  have lv := up_leV (u := .lst vs') s h0 ha
  exact post_up (c := .lst ds') s h0 ha ⟨vs', upd_same, hz, repL_leV lv _ _ r1⟩ (rep_leV lv _ _ r2) p
end
/-! ### methods -/
abbrev FM := D → List D → Store → R D
def OpM (K : PySem.W.Frag) (r : V → List V → Hp → VK → Prop) (f : FM) : Prop := ∀ (W : WX) (σ : L2.St) (w : Wd) (S : Store) (d : D) (ds : List D) (x : V) (xs : List V) (Q : VK), SR K w S → Rep K w d x → RepL K w ds xs →
  Post K W σ w (f d ds S) (fun d _ w' => ∀ v, Rep K w' d v → Q v w'.H) → r x xs w.H Q
/-- what says the type of a method's object -/
def tyD (T : String) (S : Store) (d : D) : Bool := match d with
  | .str _ => T == "str"
  | .ktup _ => T == "tuple"
  | d => (T == "list" && (asL S d).isSome) || (T == "dict" && match d with
    | .loc n => match S[n]? with
      | some (some (.dct _ _)) => true
      | _ => false
    | .dct _ _ => true
    | _ => false)
def tyX (K : PySem.W.Frag) (T : String) (x : V) (H : Hp) : Prop := tyV K T x H ∨ (T = "tuple" ∧ ∃ p o xs, x = .ref p ∧ H p = some (.frz o (.tup xs)) ∧ o.dict = none)
theorem tyX_is {X : Cx} {pins : List (Addr × Obj)} {σ : L2.St} {H : Hp} {s : Shared} {T : String} {x : V} {v : Value} (I : Inv X pins σ H s) (r : RelV x v) (ty : tyX X.K T x H) :
    s.TypeIs v T ∧ ∀ a, v = .ref a → ∃ ob, s.heap.get? a = some ob ∧ ob.dict = none := by
  rcases ty with ty | ⟨rfl, p, o, xs, rfl, h, hd⟩
  · exact tyV_is I r ty
  · obtain rfl : v = .ref p := r
    obtain ⟨e, _, its, _, o', e', hc, _⟩ := I.hok p _ h
    rw [e] at e'
    cases e'
    refine ⟨⟨o, e, hc⟩, fun a z => ?_⟩
    cases z
    exact ⟨o, e, hd⟩
theorem tyD_of {K : PySem.W.Frag} {w : Wd} {S : Store} {T : String} {d : D} {x : V} (s : SR K w S) (h : tyD T S d = true) (r : Rep K w d x) : tyX K T x w.H := by
  have fall : ((T == "list" && (asL S d).isSome) || (T == "dict" && match d with
    | .loc n => match S[n]? with
      | some (some (.dct _ _)) => true
      | _ => false
    | .dct _ _ => true
    | _ => false)) = true → tyX K T x w.H := fun h => by
    simp only [Bool.or_eq_true, Bool.and_eq_true, beq_iff_eq] at h
    rcases h with ⟨eT, h⟩ | ⟨eT, h⟩
    · obtain ⟨ds, e⟩ := Option.isSome_iff_exists.mp h
      obtain ⟨a, vs, rfl, h2, _⟩ := asL_of s e r
      exact .inl (.inl ⟨eT, vs, h2⟩)
    · have z : ∃ t kvs, asD S d = some (t, kvs) := by
        cases d with
        | dct t kvs => exact ⟨t, kvs, rfl⟩
        | loc n =>
          simp only [asD]
          simp only at h
          cases e : S[n]? with
          | none => rw [e] at h; cases h
          | some o =>
            rw [e] at h
            cases o with
            | none => cases h
            | some c =>
              cases c with
              | dct t kvs => exact ⟨t, kvs, rfl⟩
              | _ => cases h
        | _ => cases h
      obtain ⟨t, kvs, e⟩ := z
      obtain ⟨a, rfl, hd⟩ := asD_of s e r
      cases t with
      | false => obtain ⟨ks, q, _⟩ := hd; exact .inl (.inr (.inr (.inl ⟨eT, .inl ⟨ks, q⟩⟩)))
      | true => obtain ⟨ks, q, _⟩ := hd; exact .inl (.inr (.inr (.inl ⟨eT, .inr ⟨ks, q⟩⟩)))
  cases d with
  | str z =>
    cases (show x = _ from r)
    simp only [tyD, beq_iff_eq] at h
    exact .inl h
  | ktup ds =>
    simp only [tyD, beq_iff_eq] at h
    subst h
    obtain ⟨a, vs, rfl, k, _⟩ := r
    rcases k with ⟨o, k, hd⟩ | ⟨o, its, n, k1, k2, k3, _⟩
    · exact .inr ⟨rfl, a, o, vs, rfl, k, hd⟩
    · exact .inl (.inr (.inl ⟨rfl, o, k1, k2, k3⟩))
  | _ => exact fall h
def eMeth (T : String) (f : FM) (m : EM) (ms : List EM) : EM := fun env S => (m env S).bind fun d S1 => if tyD T S1 d then (aList ms env S1).bind fun ds S2 => f d ds S2 else .no
def tXM (K : PySem.W.Frag) (T : String) (r : V → List V → Hp → VK → Prop) (to : TE) (t : TA) : TE := fun σ H Q => to σ H fun x H1 => tyX K T x H1 ∧ t σ H1 fun xs H2 => r x xs H2 Q
def tXM0 (K : PySem.W.Frag) (T : String) (r : V → List V → Hp → VK → Prop) (to : TE) : TE := fun σ H Q => to σ H fun x H1 => tyX K T x H1 ∧ r x [] H1 Q
section
variable {X : Cx} {o e : Expr} {es : List Expr} {to : TE} {t : TA} {name : Str} {apos cpos : Pos} {T id : String} {r : V → List V → Hp → VK → Prop}
theorem pe_xm0 (pa : PlainAttrs T) (slot : Slot T name id) (hty : typeOf (.builtin id) = pure (.type "method_descriptor")) (hm : MtR X id r) (ho : PE X o to)
    (hbase : attributeBase o name X.env (eval o X.env) = eval o X.env) (hline : (apos.endLine == cpos.line) = true) : PE X (.Call (.Attribute o name apos) [] [] cpos) (tXM0 X.K T r to) := by
  refine ⟨fun pins s σ H Q I h => ?_⟩
  refine wpAny_Call_method0_late hbase hline (thn (ho.run pins s σ H _ I h) fun v s1 ⟨x, H1, I1, r1, ty, q1⟩ => ?_)
  obtain ⟨h1, h2⟩ := tyX_is I1 r1 ty
  exact ⟨T, id, pa, slot, hty, h1, h2, Calls.callWith_builtin rfl (PySem.evalArgs_none (hm pins s1 σ H1 x [] v [] Q I1 r1 .nil q1))⟩
theorem pe_xm (pa : PlainAttrs T) (slot : Slot T name id) (hty : typeOf (.builtin id) = pure (.type "method_descriptor")) (hm : MtR X id r) (ho : PE X o to) (ha : PA X (e :: es) t)
    (hbase : attributeBase o name X.env (eval o X.env) = eval o X.env)
    (hfew : ((backTo cpos (starEach (e :: es) X.env)).all (fun x => !x.1) && (backToKw cpos (keywordEach [] X.env)).all (fun x => x.1.isSome)
      && decide ((e :: es).length + ([] : List Keyword).length + (if ([] : List Keyword).isEmpty then 0 else 1) < 30)) = true)
    (hline : (apos.endLine == cpos.line) = true) (hs : starEach (e :: es) X.env = (false, eval e X.env) :: starEach es X.env) (hplain : (backTo cpos (starEach es X.env)).any (·.1) = false) :
    PE X (.Call (.Attribute o name apos) (e :: es) [] cpos) (tXM X.K T r to t) := by
  refine ⟨fun pins s σ H Q I h => ?_⟩
  refine wpAny_Call_method_late hbase hfew hline rfl (thn (ho.run pins s σ H _ I h) fun v s1 ⟨x, H1, I1, r1, ty, q1⟩ => ?_)
  obtain ⟨h1, h2⟩ := tyX_is I1 r1 ty
  refine ⟨T, id, pa, slot, hty, h1, h2, ?_⟩
  have hA := ha.run cpos pins s1 σ H1 _ I1 q1
  rw [hs] at hA ⊢
  refine Calls.callWith_builtin (by show (false || (backTo cpos (starEach es X.env)).any (·.1)) = false; rw [hplain] <;> rfl) (Calls.evalArgs_plain ?_)
  exact thn hA fun us s2 ⟨vs, H2, I2, r2, q2⟩ => hm pins s2 σ H2 x vs v us Q I2 r1 r2 q2
end
section
variable {K : PySem.W.Frag} {W : WX} {x : Xc} {σ : L2.St} {H : Hp} {Q : VK} {T : String} {r : V → List V → Hp → VK → Prop} {f : FM} {m : EM}
theorem sim_meth {ms : List EM} (ho : OpM K r f) (h : rd K W x (eMeth T f m ms) σ H Q) : tXM K T r (rd K W x m) (rdA K W x (aList ms)) σ H Q := by
  obtain ⟨w, env, S, rfl, s, er, h⟩ := h
  refine ⟨w, env, S, rfl, s, er, h.bind.mono fun d S1 w1 l1 s1 h1 v rv => ?_⟩
  cases e : tyD T S1 d with
  | false => simp only [e] at h1; exact h1.elim
  | true =>
    simp only [e, if_true] at h1
    refine ⟨tyD_of s1 e rv, w1, env, S1, rfl, s1, er.le l1, h1.bind.mono fun ds S2 w2 l2 s2 h2 vs rvs => ?_⟩
    exact ho W σ w2 S2 d ds v vs Q s2 (rep_le l2 _ _ rv) rvs h2
theorem sim_meth0 (ho : OpM K r f) (h : rd K W x (eMeth T f m []) σ H Q) : tXM0 K T r (rd K W x m) σ H Q := by
  obtain ⟨w, env, S, rfl, s, er, h⟩ := h
  refine ⟨w, env, S, rfl, s, er, h.bind.mono fun d S1 w1 l1 s1 h1 v rv => ?_⟩
  cases e : tyD T S1 d with
  | false => simp only [e] at h1; exact h1.elim
  | true =>
    simp only [e, if_true] at h1
    exact ⟨tyD_of s1 e rv, ho W σ w1 S1 d [] v [] Q s1 rv rfl h1⟩
end
/-! the methods of lists -/
def fmAppend : FM := fun d as S => match cellL S d, as with
  | some (n, ds), [y] => if ds.length < sizeLine then .ok .non (S.set n (some (.lst (ds ++ [y])))) else .no
  | _, _ => .no
def fmExtend : FM := fun d as S => match cellL S d, as with
  | some (n, ds), [y] => match asLT S y with
    | some es => if ds.length + es.length ≤ sizeLine then .ok .non (S.set n (some (.lst (ds ++ es)))) else .no
    | none => .no
  | _, _ => .no
def ixOk (i : Int) : Bool := decide (-4611686018427387904 ≤ i) && decide (i < 4611686018427387904)
theorem ixOk_of {i : Int} (h : ixOk i = true) : -(2 ^ 63) ≤ i ∧ i < 2 ^ 63 := by
  unfold ixOk at h
  simp only [Bool.and_eq_true, decide_eq_true_eq] at h
  omega
def fmPop : FM := fun d as S => match cellL S d, as with
  | some (n, ds), [] => match ds[ds.length - 1]? with
    | some y => .ok y (S.set n (some (.lst ds.dropLast)))
    | none => .no
  | some (n, ds), [.int i] => if ixOk i then match seqIndex? i ds.length with
    | some k => match ds[k]? with
      | some y => .ok y (S.set n (some (.lst (ds.eraseIdx k))))
      | none => .no
    | none => .no else .no
  | _, _ => .no
def fmReverse : FM := fun d as S => match cellL S d, as with
  | some (n, ds), [] => .ok .non (S.set n (some (.lst ds.reverse)))
  | _, _ => .no
def fmClear : FM := fun d as S => match cellL S d, as with
  | some (n, ds), [] => .ok .non (S.set n (some (.lst [])))
  | _, _ => .no
def fmInsert : FM := fun d as S => match cellL S d, as with
  | some (n, ds), [.int i, y] => if ds.length < sizeLine ∧ 0 ≤ i ∧ i < 4611686018427387904 then .ok .non (S.set n (some (.lst (ds.take i.toNat ++ [y] ++ ds.drop i.toNat)))) else .no
  | _, _ => .no
def fmRemove : FM := fun d as S => match cellL S d, as with
  | some (n, ds), [.int k] => match mapO toInt ds with
    | some ns => if k ∈ ns then .ok .non (S.set n (some (.lst (ds.eraseIdx (ns.idxOf k))))) else .no
    | none => .no
  | _, _ => .no
def fmCount : FM := fun d as S => match as with
  | [.int k] => match asI S d with
    | some ns => .ok (.int (ns.count k : Nat)) S
    | none => match asTI d with
      | some ns => .ok (.int (ns.count k : Nat)) S
      | none => .no
  | _ => .no
def fmIndexL : FM := fun d as S => match asL S d, as with
  | some ds, [y] => match toPy S dpt y, mapO (toPy S dpt) ds with
    | some p, some ps => if SeqAt.shaped p && SeqAt.shaped (.list ps) then match ps.findIdx? (fun z => PyData.eqv z p) with
      | some j => .ok (.int (j : Nat)) S
      | none => .no else .no
    | _, _ => .no
  | _, _ => .no
def fmIndexT : FM := fun d as S => match asTI d, as with
  | some ns, [.int k] => if k ∈ ns then .ok (.int (ns.idxOf k : Nat)) S else .no
  | _, _ => .no
section
variable {K : PySem.W.Frag}
theorem RepL.single {w : Wd} {d : D} {v : V} (r : Rep K w d v) : RepL K w [d] [v] := ⟨v, [], rfl, r, rfl⟩
theorem opm_append : OpM K rAppend fmAppend := fun W σ w S d ds x xs Q s r rs h => by
  unfold fmAppend at h
  cases e : cellL S d with
  | none => rw [e] at h; exact h.elim
  | some p =>
    obtain ⟨n, l⟩ := p
    match ds, h, rs with
    | [y], h, rs =>
      rw [e] at h
      simp only at h
      obtain ⟨v, rfl, rv⟩ := rs.one
      obtain ⟨a, vs, rfl, h1, h2, h3, h4⟩ := mutL s e r
      by_cases hz : l.length < sizeLine
      · rw [if_pos hz] at h
        have hl : vs.length < sizeLine := by rw [← h2.length]; exact hz
        exact ⟨a, vs, v, rfl, rfl, h1, hl, h4 W σ _ _ .non .non Q (h2.append (RepL.single rv)) (by simp; omega) rfl h⟩
      · rw [if_neg hz] at h
        exact h.elim
    | [], h, _ => rw [e] at h; exact h.elim
    | _ :: _ :: _, h, _ => rw [e] at h; exact h.elim
theorem opm_extend : OpM K rExtend fmExtend := fun W σ w S d ds x xs Q s r rs h => by
  unfold fmExtend at h
  cases e : cellL S d with
  | none => rw [e] at h; exact h.elim
  | some p =>
    obtain ⟨n, l⟩ := p
    match ds, h, rs with
    | [y], h, rs =>
      rw [e] at h
      simp only at h
      obtain ⟨v, rfl, rv⟩ := rs.one
      obtain ⟨a, vs, rfl, h1, h2, h3, h4⟩ := mutL s e r
      cases e2 : asLT S y with
      | none => rw [e2] at h; exact h.elim
      | some es =>
        simp only [e2] at h
        obtain ⟨b, us, rfl, k1, k2⟩ := asLT_of s e2 rv
        by_cases hz : l.length + es.length ≤ sizeLine
        · rw [if_pos hz] at h
          have hl : vs.length + us.length ≤ sizeLine := by rw [← h2.length, ← k2.length]; exact hz
          exact ⟨a, b, vs, us, rfl, rfl, h1, k1, hl, h4 W σ _ _ .non .non Q (h2.append k2) (by simp; omega) rfl h⟩
        · rw [if_neg hz] at h
          exact h.elim
    | [], h, _ => rw [e] at h; exact h.elim
    | _ :: _ :: _, h, _ => rw [e] at h; exact h.elim
theorem RepL.dropLast {w : Wd} {ds : List D} {vs : List V} (h : RepL K w ds vs) : RepL K w ds.dropLast vs.dropLast := by
  rw [List.dropLast_eq_take, List.dropLast_eq_take, h.length]
  exact h.take _
def rPop2 : V → List V → Hp → VK → Prop := fun x xs H Q => rPop x xs H Q ∨ rPopAt x xs H Q
theorem mt_pop2 {X : Cx} : MtR X "list.pop" rPop2 := MtR.or mt_pop mt_popAt
theorem opm_pop : OpM K rPop2 fmPop := fun W σ w S d ds x xs Q s r rs h => by
  unfold fmPop at h
  cases e : cellL S d with
  | none => rw [e] at h; exact h.elim
  | some p =>
    obtain ⟨n, l⟩ := p
    obtain ⟨a, vs, rfl, h1, h2, h3, h4⟩ := mutL s e r
    match ds, h, rs with
    | [], h, rs =>
      rw [e] at h
      simp only at h
      cases (show xs = _ from rs)
      cases e2 : l[l.length - 1]? with
      | none => rw [e2] at h; exact h.elim
      | some y =>
        simp only [e2] at h
        obtain ⟨u, k1, k2⟩ := h2.get e2
        rw [h2.length] at k1
        exact .inl ⟨a, vs, u, rfl, rfl, h1, k1, h4 W σ _ _ y u Q h2.dropLast (by simp; omega) k2 h⟩
    | [f], h, rs =>
      rw [e] at h
      cases f with
      | int i =>
        simp only at h
        obtain ⟨v, rfl, rv⟩ := rs.one
        cases (show v = _ from rv)
        cases e1 : ixOk i with
        | false => simp only [e1] at h; exact h.elim
        | true =>
          simp only [e1, if_true] at h
          obtain ⟨b1, b2⟩ := ixOk_of e1
          cases e2 : seqIndex? i l.length with
          | none => simp only [e2] at h; exact h.elim
          | some k =>
            simp only [e2] at h
            cases e3 : l[k]? with
            | none => simp only [e3] at h; exact h.elim
            | some y =>
              simp only [e3] at h
              obtain ⟨u, k1, k2⟩ := h2.get e3
              have hz : (vs.eraseIdx k).length ≤ sizeLine := Nat.le_trans (List.length_eraseIdx_le _ _) h3
              exact .inr ⟨a, vs, i, k, u, rfl, rfl, h1, b1, b2, by rw [← h2.length]; exact e2, k1, h4 W σ _ _ y u Q (h2.eraseIdx k) hz k2 h⟩
      | _ => exact h.elim
    | f :: _ :: _, h, _ => rw [e] at h; exact absurd h (by cases f <;> exact id)
theorem opm_reverse : OpM K rReverse fmReverse := fun W σ w S d ds x xs Q s r rs h => by
  unfold fmReverse at h
  cases e : cellL S d with
  | none => rw [e] at h; exact h.elim
  | some p =>
    obtain ⟨n, l⟩ := p
    obtain ⟨a, vs, rfl, h1, h2, h3, h4⟩ := mutL s e r
    match ds, h, rs with
    | [], h, rs =>
      rw [e] at h
      cases (show xs = _ from rs)
      exact ⟨a, vs, rfl, rfl, h1, h4 W σ _ _ .non .non Q h2.reverse (by simpa using h3) rfl h⟩
    | _ :: _, h, _ => rw [e] at h; exact h.elim
theorem opm_clear : OpM K rClear fmClear := fun W σ w S d ds x xs Q s r rs h => by
  unfold fmClear at h
  cases e : cellL S d with
  | none => rw [e] at h; exact h.elim
  | some p =>
    obtain ⟨n, l⟩ := p
    obtain ⟨a, vs, rfl, h1, h2, h3, h4⟩ := mutL s e r
    match ds, h, rs with
    | [], h, rs =>
      rw [e] at h
      cases (show xs = _ from rs)
      exact ⟨a, vs, rfl, rfl, h1, h4 W σ [] [] .non .non Q rfl (Nat.zero_le _) rfl h⟩
    | _ :: _, h, _ => rw [e] at h; exact h.elim
def rInsert : V → List V → Hp → VK → Prop := fun x vs H Q => ∃ (l : Addr) (xs : List V) (i : Int) (y : V), x = .ref l ∧ vs = [.int i, y] ∧ H l = some (.lst xs) ∧ xs.length < sizeLine ∧ 0 ≤ i ∧ i < 2 ^ 63 ∧
    Q .non (upd H l (.lst (xs.take i.toNat ++ [y] ++ xs.drop i.toNat)))
theorem mt_insertR {X : Cx} : MtR X "list.insert" rInsert := mt_insert
theorem opm_insert : OpM K rInsert fmInsert := fun W σ w S d ds x xs Q s r rs h => by
  unfold fmInsert at h
  cases e : cellL S d with
  | none => rw [e] at h; exact h.elim
  | some p =>
    obtain ⟨n, l⟩ := p
    obtain ⟨a, vs, rfl, h1, h2, h3, h4⟩ := mutL s e r
    rw [e] at h
    match ds, h, rs with
    | [], h, _ => exact h.elim
    | [_], h, _ => exact absurd h (by cases ‹D› <;> exact id)
    | [f, y], h, rs =>
      cases f with
      | int i =>
        simp only at h
        obtain ⟨v, u, rfl, rv, ru⟩ := rs.two
        cases (show v = _ from rv)
        by_cases hz : l.length < sizeLine ∧ 0 ≤ i ∧ i < 4611686018427387904
        · rw [if_pos hz] at h
          have hl : vs.length < sizeLine := by rw [← h2.length]; exact hz.1
          have hlen : (vs.take i.toNat ++ [u] ++ vs.drop i.toNat).length ≤ sizeLine := by simp; omega
          exact ⟨a, vs, i, u, rfl, rfl, h1, hl, hz.2.1, by omega, h4 W σ _ _ .non .non Q (((h2.take _).append (RepL.single ru)).append (h2.drop _)) hlen rfl h⟩
        · rw [if_neg hz] at h
          exact h.elim
      | _ => exact h.elim
    | f :: _ :: _ :: _, h, _ => exact absurd h (by cases f <;> exact id)
theorem opm_remove : OpM K rRemI fmRemove := fun W σ w S d ds x xs Q s r rs h => by
  unfold fmRemove at h
  cases e : cellL S d with
  | none => rw [e] at h; exact h.elim
  | some p =>
    obtain ⟨n, l⟩ := p
    obtain ⟨a, vs, rfl, h1, h2, h3, h4⟩ := mutL s e r
    rw [e] at h
    match ds, h, rs with
    | [], h, _ => exact h.elim
    | [f], h, rs =>
      cases f with
      | int k =>
        simp only at h
        obtain ⟨v, rfl, rv⟩ := rs.one
        cases (show v = _ from rv)
        cases e2 : mapO toInt l with
        | none => rw [e2] at h; exact h.elim
        | some ns =>
          simp only [e2] at h
          have q := mapO_int e2
          subst q
          have ev := RepL.ints h2
          subst ev
          by_cases hk : k ∈ ns
          · rw [if_pos hk] at h
            have hi : ns.idxOf k < ns.length := List.idxOf_lt_length_of_mem hk
            refine ⟨a, ns, k, ns.idxOf k, rfl, rfl, h1, ?_, fun m hm z => ?_, ?_⟩
            · rw [List.getElem?_eq_getElem hi, List.getElem_idxOf hi]
            · have hz : m < ns.length := (List.getElem?_eq_some_iff.mp z).1
              have e4 : ns[m] = k := (List.getElem?_eq_some_iff.mp z).2
              have := List.not_of_lt_findIdx (p := (· == k)) (xs := ns) (i := m) hm
              simp [e4] at this
            · refine h4 W σ _ _ .non .non Q ?_ ?_ rfl h
              · rw [← erase_mapI]
                exact h2.eraseIdx _
              · rw [List.length_map]
                have := List.length_eraseIdx_le ns (ns.idxOf k)
                simp at h3
                omega
          · rw [if_neg hk] at h
            exact h.elim
      | _ => exact h.elim
    | f :: _ :: _, h, _ => exact absurd h (by cases f <;> exact id)
end
end EV
/-! ## A9 -/
set_option Elab.async false
set_option linter.all false
set_option maxRecDepth 100000
set_option maxHeartbeats 2000000
/-! Part 9: count, index; enumerate, zip; items set; dicts; isinstance. -/
namespace EV
open PySem PySem.Spec
open PyProof.Rows hiding St
open L2
/-! ### count, index -/
def rCntT (K : PySem.W.Frag) : V → List V → Hp → VK → Prop := fun x xs H Q => ∃ (p : Addr) (ns : List Int) (k : Int), x = .ref p ∧ xs = [.int k] ∧ SqT K H p (ns.map V.int) ∧ Q (.int (ns.count k : Nat)) H
theorem mt_tcount {X : Cx} : MtR X "tuple.count" (rCntT X.K) := by
  intro pins s σ H x xs v us Q I rx rxs h
  obtain ⟨p, ns, k, rfl, rfl, hs, q⟩ := h
  cases rx
  obtain ⟨u, rfl, ru⟩ := rxs.one
  obtain ⟨t, rfl⟩ := ru
  obtain ⟨its, rv, ⟨⟨cls, dd, data, sl⟩, ho, hc, n, hd⟩, hlen⟩ := I.tuple hs
  simp only at hc hd
  subst hc hd
  have hi := ints_of_vals rv
  refine call_meets PySem.F.slot_tuple_count ⟨_, ho, rfl⟩ PySem.F.entry_tuple_count (PySem.F.args_tuple_count_2 _ _)
    (SeqAt.tuple_countAt p its.toArray n dd sl (.int k t) (eqk k)) ⟨ho, fun y hy => (eqk_gives hi y (by simpa using hy)).at _ _, ?_⟩
  have ec : its.toArray.toList.countP (eqk k) = ns.count k := eqk_count hi
  refine ⟨.int (ns.count k : Nat), H, I.tok _, ⟨s.toks, ?_⟩, q⟩
  rw [ec]
def rIdxT (K : PySem.W.Frag) : V → List V → Hp → VK → Prop := fun x xs H Q => ∃ (p : Addr) (ns : List Int) (k : Int), x = .ref p ∧ xs = [.int k] ∧ SqT K H p (ns.map V.int) ∧ k ∈ ns ∧ Q (.int (ns.idxOf k : Nat)) H
theorem mt_tindex {X : Cx} : MtR X "tuple.index" (rIdxT X.K) := by
  intro pins s σ H x xs v us Q I rx rxs h
  obtain ⟨p, ns, k, rfl, rfl, hs, hk, q⟩ := h
  cases rx
  obtain ⟨u, rfl, ru⟩ := rxs.one
  obtain ⟨t, rfl⟩ := ru
  obtain ⟨its, rv, pl, hlen⟩ := I.tuple hs
  exact SeqAt.tuple_index_ints pl (ints_of_vals rv) hk ⟨.int (ns.idxOf k : Nat), H, I.tok _, ⟨_, rfl⟩, q⟩
section
variable {K : PySem.W.Frag}
theorem opm_lcount : OpM K (rCntI K) (fun d as S => match asL S d with
  | some _ => fmCount d as S
  | none => .no) := fun W σ w S d ds x xs Q s r rs h => by
  cases e : asL S d with
  | none => simp only [e] at h; exact h.elim
  | some l =>
    simp only [e] at h
    unfold fmCount at h
    match ds, h, rs with
    | [], h, _ => exact h.elim
    | [f], h, rs =>
      cases f with
      | int k =>
        obtain ⟨v, rfl, rv⟩ := rs.one
        cases (show v = _ from rv)
        simp only at h
        cases e1 : asI S d with
        | some ns =>
          simp only [e1] at h
          obtain ⟨a, rfl, k1⟩ := asI_of s e1 r
          exact ⟨a, ns, k, rfl, rfl, k1, post_at s h rfl⟩
        | none =>
          simp only [e1] at h
          cases e2 : asTI d with
          | none => simp only [e2] at h; exact h.elim
          | some ns =>
            unfold asTI at e2
            cases d with
            | tup _ => cases e
            | ktup _ => cases e
            | _ => cases e2
      | _ => exact h.elim
    | f :: _ :: _, h, _ => exact absurd h (by cases f <;> exact id)
def fmCountL : FM := fun d as S => match asL S d with
  | some _ => fmCount d as S
  | none => .no
def fmCountT : FM := fun d as S => match asTI d, as with
  | some ns, [.int k] => .ok (.int (ns.count k : Nat)) S
  | _, _ => .no
theorem opm_countL : OpM K (rCntI K) fmCountL := opm_lcount
theorem opm_countT : OpM K (rCntT K) fmCountT := fun W σ w S d ds x xs Q s r rs h => by
  unfold fmCountT at h
  cases e : asTI d with
  | none => simp only [e] at h; exact h.elim
  | some ns =>
    match ds, h, rs with
    | [], h, _ => simp only [e] at h; exact h.elim
    | [f], h, rs =>
      cases f with
      | int k =>
        obtain ⟨v, rfl, rv⟩ := rs.one
        cases (show v = _ from rv)
        simp only [e] at h
        obtain ⟨a, rfl, k1⟩ := asTI_of (S := S) e r
        exact ⟨a, ns, k, rfl, rfl, k1, post_at s h rfl⟩
      | _ => simp only [e] at h; exact h.elim
    | f :: _ :: _, h, _ => simp only [e] at h; exact absurd h (by cases f <;> exact id)
theorem opm_indexT : OpM K (rIdxT K) fmIndexT := fun W σ w S d ds x xs Q s r rs h => by
  unfold fmIndexT at h
  cases e : asTI d with
  | none => simp only [e] at h; exact h.elim
  | some ns =>
    match ds, h, rs with
    | [], h, _ => simp only [e] at h; exact h.elim
    | [f], h, rs =>
      cases f with
      | int k =>
        obtain ⟨v, rfl, rv⟩ := rs.one
        cases (show v = _ from rv)
        simp only [e] at h
        by_cases hk : k ∈ ns
        · rw [if_pos hk] at h
          obtain ⟨a, rfl, k1⟩ := asTI_of (S := S) e r
          exact ⟨a, ns, k, rfl, rfl, k1, hk, post_at s h rfl⟩
        · rw [if_neg hk] at h
          exact h.elim
      | _ => simp only [e] at h; exact h.elim
    | f :: _ :: _, h, _ => simp only [e] at h; exact absurd h (by cases f <;> exact id)
theorem opm_indexL : OpM K (rIndexD K) fmIndexL := fun W σ w S d ds x xs Q s r rs h => by
  unfold fmIndexL at h
  cases e : asL S d with
  | none => simp only [e] at h; exact h.elim
  | some l =>
    match ds, h, rs with
    | [], h, _ => simp only [e] at h; exact h.elim
    | [y], h, rs =>
      obtain ⟨v, rfl, rv⟩ := rs.one
      simp only [e] at h
      cases e1 : toPy S dpt y with
      | none => simp only [e1] at h; exact h.elim
      | some p =>
        cases e2 : mapO (toPy S dpt) l with
        | none => simp only [e1, e2] at h; exact h.elim
        | some ps =>
          simp only [e1, e2] at h
          cases e3 : (SeqAt.shaped p && SeqAt.shaped (.list ps)) with
          | false => simp only [e3] at h; exact h.elim
          | true =>
            simp only [e3, if_true] at h
            obtain ⟨k1, k2⟩ := Bool.and_eq_true_iff.mp e3
            cases e4 : ps.findIdx? (fun z => PyData.eqv z p) with
            | none => simp only [e4] at h; exact h.elim
            | some j =>
              simp only [e4] at h
              obtain ⟨a, vs, rfl, q2, q3⟩ := asL_of s e r
              obtain ⟨hj, hy, hno⟩ := List.findIdx?_eq_some_iff_getElem.mp e4
              refine ⟨a, v, p, ps, j, ps[j], rfl, rfl, .lst q2 (mapO_of (toPy_of s _) _ _ _ e2 q3), toPy_of s _ _ _ _ e1 rv, k2, k1, List.getElem?_eq_getElem hj, hy, fun m z' hm hz => ?_, post_at s h rfl⟩
              obtain ⟨h1, h2⟩ := List.getElem?_eq_some_iff.mp hz
              have q := hno m hm
              rw [h2] at q
              simpa using q
    | _ :: _ :: _, h, _ => simp only [e] at h; exact h.elim
end
/-! ### enumerate, zip -/
def seqA (S : Store) (d : D) : Option ItS := match seqL S d with
  | some it => some it
  | none => seqT d
def iEnumD (ms : List EM) : IM := fun env S => (aList ms env S).bind fun ds S1 => match ds with
  | [d] => match seqA S1 d with
    | some it => .ok ⟨enumD 0 it.ds, it.g⟩ S1
    | none => .no
  | _ => .no
def iZipD (ms : List EM) : IM := fun env S => (aList ms env S).bind fun ds S1 => match ds with
  | [d, e] => match seqL S1 d, seqL S1 e with
    | some it, some jt => .ok ⟨zipD it.ds jt.ds, it.g ++ jt.g⟩ S1
    | _, _ => match seqT d, seqT e with
      | some it, some jt => .ok ⟨zipD it.ds jt.ds, []⟩ S1
      | _, _ => .no
  | _ => .no
section
variable {K : PySem.W.Frag} {W : WX} {x : Xc} {σ : L2.St} {H : Hp} {w : Wd}
theorem itr_enumT {a : Addr} {ds : List D} {g : List (Nat × List D)} (hz : ds.length ≤ sizeLine) (h : Src K w g ds (fun H vs => SqT K H a vs)) : ItR K w ⟨enumD 0 ds, g⟩ (EV0.IteT K a) where
  len := by simpa [enumD_len] using hz
  go := fun i w' S' l s' gk hi => by
    have hi' : i < ds.length := by simpa [enumD_len] using hi
    obtain ⟨vs, h1, h2, _⟩ := h w' S' l s' gk
    obtain ⟨u, e, _⟩ := h2.get (i := i) (d := ds[i]'hi') (List.getElem?_eq_getElem hi')
    exact ⟨vs, u, h1, e⟩
  yld := fun i w' S' v H' d l s' gk hd y => by
    obtain ⟨vs, h1, h2, _⟩ := h w' S' l s' gk
    have hd' : (enumD 0 ds)[i]? = some d := hd
    rw [enumD_get] at hd'
    obtain ⟨d0, e0, rfl⟩ := map_some hd'
    obtain ⟨u, e, r⟩ := h2.get e0
    obtain ⟨T, u', rfl, hT, rfl, y⟩ := y
    have z := y vs h1
    rw [e] at z
    cases z
    rw [Nat.zero_add]
    exact pair_new s' hT (rfl : Rep K w' (.int ((i : Nat) : Int)) (.int ((i : Nat) : Int))) r
  stop := fun i w' S' l s' gk hi => by
    obtain ⟨vs, h1, h2, _⟩ := h w' S' l s' gk
    exact ⟨vs, h1, by rw [← h2.length]; simpa [enumD_len] using hi⟩
theorem simI_enum {m : EM} {Rr : It → Hp → Prop} (h : rdI K W x (iEnumD [m]) σ H Rr) : EV0.iOr (iEnum K (rdA K W x (aList [m]))) (EV0.iEnumT K (rdA K W x (aList [m]))) σ H Rr := by
  obtain ⟨w, env, S, rfl, s, er, h⟩ := h
  unfold iEnumD at h
  have hb := h.bind
  -- which of the two it is, the meaning tells
  cases e0 : aList [m] env S with
  | no => rw [e0] at hb; exact hb.elim
  | er y S1 =>
    rw [e0] at hb
    exact .inl ⟨w, env, S, rfl, s, er, by rw [e0]; exact hb⟩
  | ok ds S1 =>
    rw [e0, R.bind_ok] at h
    have hl := aList_len e0
    match ds, hl, h, e0 with
    | [d], _, h, e0 =>
      simp only [seqA] at h
      cases e : seqL S1 d with
      | some it =>
        simp only [e] at h
        refine .inl ⟨w, env, S, rfl, s, er, ?_⟩
        rw [e0]
        intro w1 l1 s1 vs rv
        obtain ⟨v, rfl, rv1⟩ := rv.one
        obtain ⟨a, rfl, ⟨us, h2⟩, h3, ho⟩ := seqL_of s1 e rv1
        exact ⟨a, us, rfl, h2, h w1 l1 s1 _ (itr_enum (h3.len s1 ho) h3)⟩
      | none =>
        simp only [e] at h
        cases e2 : seqT d with
        | none => simp only [e2] at h; exact h.elim
        | some it =>
          simp only [e2] at h
          refine .inr ⟨w, env, S, rfl, s, er, ?_⟩
          rw [e0]
          intro w1 l1 s1 vs rv
          obtain ⟨v, rfl, rv1⟩ := rv.one
          obtain ⟨a, rfl, ⟨us, h2⟩, h3, ho⟩ := seqT_of s1 e2 rv1
          exact ⟨a, us, rfl, h2, h w1 l1 s1 _ (itr_enumT (h3.len s1 ho) h3)⟩
/-- the items of two sources in pairs -/
theorem zipD_at : ∀ {ds es : List D} {i : Nat} {z : D}, (zipD ds es)[i]? = some z → ∃ d e, ds[i]? = some d ∧ es[i]? = some e ∧ z = .tup [d, e]
  | [], _, _, _, h => by simp [zipD] at h
  | _ :: _, [], _, _, h => by simp [zipD] at h
  | d :: ds, e :: es, 0, _, h => by
    simp [zipD] at h
    exact ⟨d, e, rfl, rfl, h.symm⟩
  | d :: ds, e :: es, i + 1, z, h => by
    simp only [zipD, List.getElem?_cons_succ] at h ⊢
    exact zipD_at h
theorem itr_zip {a b : Addr} {ds es : List D} {g g' : List (Nat × List D)} (hz : ds.length ≤ sizeLine) (h : Src K w g ds (fun H vs => SqL K H a vs)) (h' : Src K w g' es (fun H vs => SqL K H b vs)) : ItR K w ⟨zipD ds es, g ++ g'⟩ (Itz K a b) where
  len := by
    show (zipD ds es).length ≤ _
    rw [zipD_len]
    omega
  go := fun i w' S' l s' gk hi => by
    have hi' : i < min ds.length es.length := by rw [← zipD_len]; exact hi
    obtain ⟨vs, h1, h2, _⟩ := h w' S' l s' fun p hp => gk p (List.mem_append_left _ hp)
    obtain ⟨us, k1, k2, _⟩ := h' w' S' l s' fun p hp => gk p (List.mem_append_right _ hp)
    obtain ⟨v, e1, _⟩ := h2.get (i := i) (d := ds[i]'(by omega)) (List.getElem?_eq_getElem (by omega))
    obtain ⟨u, e2, _⟩ := k2.get (i := i) (d := es[i]'(by omega)) (List.getElem?_eq_getElem (by omega))
    exact ⟨vs, us, v, u, h1, k1, e1, e2⟩
  yld := fun i w' S' v H' d l s' gk hd y => by
    obtain ⟨vs, h1, h2, _⟩ := h w' S' l s' fun p hp => gk p (List.mem_append_left _ hp)
    obtain ⟨us, k1, k2, _⟩ := h' w' S' l s' fun p hp => gk p (List.mem_append_right _ hp)
    obtain ⟨d1, d2, q1, q2, rfl⟩ := zipD_at hd
    obtain ⟨v1, e1, r1⟩ := h2.get q1
    obtain ⟨u1, e2, r2⟩ := k2.get q2
    obtain ⟨T, x1, y1, rfl, hT, rfl, z1, z2⟩ := y
    have a1 := z1 vs h1
    have a2 := z2 us k1
    rw [e1] at a1
    rw [e2] at a2
    cases a1
    cases a2
    exact pair_new s' hT r1 r2
  stop := fun i w' S' l s' gk hi => by
    have hi' : min ds.length es.length ≤ i := by rw [← zipD_len]; exact hi
    obtain ⟨vs, h1, h2, _⟩ := h w' S' l s' fun p hp => gk p (List.mem_append_left _ hp)
    obtain ⟨us, k1, k2, _⟩ := h' w' S' l s' fun p hp => gk p (List.mem_append_right _ hp)
    exact ⟨vs, us, h1, k1, by rw [← h2.length, ← k2.length]; omega⟩
theorem itr_zipT {a b : Addr} {ds es : List D} (hz : ds.length ≤ sizeLine) (h : Src K w [] ds (fun H vs => SqT K H a vs)) (h' : Src K w [] es (fun H vs => SqT K H b vs)) : ItR K w ⟨zipD ds es, []⟩ (RZ.ItzT K a b) where
  len := by
    show (zipD ds es).length ≤ _
    rw [zipD_len]
    omega
  go := fun i w' S' l s' gk hi => by
    have hi' : i < min ds.length es.length := by rw [← zipD_len]; exact hi
    obtain ⟨vs, h1, h2, _⟩ := h w' S' l s' fun _ z => nomatch z
    obtain ⟨us, k1, k2, _⟩ := h' w' S' l s' fun _ z => nomatch z
    obtain ⟨v, e1, _⟩ := h2.get (i := i) (d := ds[i]'(by omega)) (List.getElem?_eq_getElem (by omega))
    obtain ⟨u, e2, _⟩ := k2.get (i := i) (d := es[i]'(by omega)) (List.getElem?_eq_getElem (by omega))
    exact ⟨vs, us, v, u, h1, k1, e1, e2⟩
  yld := fun i w' S' v H' d l s' gk hd y => by
    obtain ⟨vs, h1, h2, _⟩ := h w' S' l s' fun _ z => nomatch z
    obtain ⟨us, k1, k2, _⟩ := h' w' S' l s' fun _ z => nomatch z
    obtain ⟨d1, d2, q1, q2, rfl⟩ := zipD_at hd
    obtain ⟨v1, e1, r1⟩ := h2.get q1
    obtain ⟨u1, e2, r2⟩ := k2.get q2
    obtain ⟨T, x1, y1, rfl, hT, rfl, z1, z2⟩ := y
    have a1 := z1 vs h1
    have a2 := z2 us k1
    rw [e1] at a1
    rw [e2] at a2
    cases a1
    cases a2
    exact pair_new s' hT r1 r2
  stop := fun i w' S' l s' gk hi => by
    have hi' : min ds.length es.length ≤ i := by rw [← zipD_len]; exact hi
    obtain ⟨vs, h1, h2, _⟩ := h w' S' l s' fun _ z => nomatch z
    obtain ⟨us, k1, k2, _⟩ := h' w' S' l s' fun _ z => nomatch z
    exact ⟨vs, us, h1, k1, by rw [← h2.length, ← k2.length]; omega⟩
theorem gOk_app {S : Store} {ds es ts : List D} {g g' : List (Nat × List D)} (h : gOk S ⟨ds, g⟩) (h' : gOk S ⟨es, g'⟩) : gOk S ⟨ts, g ++ g'⟩ := fun p hp => (List.mem_append.mp hp).elim (h p) (h' p)
theorem simI_zip {m m2 : EM} {Rr : It → Hp → Prop} (h : rdI K W x (iZipD [m, m2]) σ H Rr) : RZ.iZipA K (rdA K W x (aList [m, m2])) σ H Rr := by
  obtain ⟨w, env, S, rfl, s, er, h⟩ := h
  refine ⟨w, env, S, rfl, s, er, (post_len h.bind).mono fun ds S1 w1 l1 s1 h1 vs rv => ?_⟩
  obtain ⟨hl, h1⟩ := h1
  match ds, hl, h1, rv with
  | [d, e], _, h1, rv =>
    obtain ⟨v, u, rfl, rv1, rv2⟩ := rv.two
    clear rv
    simp only at h1
    have tups : Post K W σ w1 (match seqT d, seqT e with
      | some it, some jt => .ok ⟨zipD it.ds jt.ds, []⟩ S1
      | _, _ => .no) (fun it _ w' => ∀ J, ItR K w' it J → Rr J w'.H) → ∃ a b xs ys, [v, u] = [.ref a, .ref b] ∧ ((SqL K w1.H a xs ∧ SqL K w1.H b ys ∧ Rr (Itz K a b) w1.H) ∨ (SqT K w1.H a xs ∧ SqT K w1.H b ys ∧ Rr (RZ.ItzT K a b) w1.H)) := fun h1 => by
      cases e1 : seqT d with
      | none => simp only [e1] at h1; exact h1.elim
      | some it =>
        cases e2 : seqT e with
        | none => simp only [e1, e2] at h1; exact h1.elim
        | some jt =>
          simp only [e1, e2] at h1
          obtain ⟨a, rfl, ⟨us, k2⟩, k3, ko⟩ := seqT_of s1 e1 rv1
          obtain ⟨b, rfl, ⟨us', j2⟩, j3, jo⟩ := seqT_of s1 e2 rv2
          have g1 : it.g = [] := by cases d <;> cases e1 <;> rfl
          have g2 : jt.g = [] := by cases e <;> cases e2 <;> rfl
          rw [g1] at k3
          rw [g2] at j3
          exact ⟨a, b, us, us', rfl, .inr ⟨k2, j2, h1 w1 (Le.refl _) s1 _ (itr_zipT (k3.len s1 fun _ z => nomatch z) k3 j3)⟩⟩
    cases e1 : seqL S1 d with
    | none => simp only [e1] at h1; exact tups h1
    | some it =>
      cases e2 : seqL S1 e with
      | none => simp only [e1, e2] at h1; exact tups h1
      | some jt =>
        simp only [e1, e2] at h1
        obtain ⟨a, rfl, ⟨us, k2⟩, k3, ko⟩ := seqL_of s1 e1 rv1
        obtain ⟨b, rfl, ⟨us', j2⟩, j3, jo⟩ := seqL_of s1 e2 rv2
        exact ⟨a, b, us, us', rfl, .inl ⟨k2, j2, h1 w1 (Le.refl _) s1 _ (itr_zip (k3.len s1 ko) k3 j3)⟩⟩
end
end EV
/-! ## A10 -/
set_option Elab.async false
set_option linter.all false
set_option maxRecDepth 100000
set_option maxHeartbeats 2000000
/-! Part 10: items set; new cells that were our own; dict displays; tuple(..) whose object is known; isinstance. -/
namespace EV
open PySem PySem.Spec
open PyProof.Rows hiding St
open L2
/-! ### o[i] = v -/
def cellD (S : Store) : D → Option (Nat × Bool × List (DKey × D))
  | .loc n => match S[n]? with
    | some (some (.dct t kvs)) => some (n, t, kvs)
    | _ => none
  | _ => none
theorem cellD_of {S : Store} {d : D} {n : Nat} {t : Bool} {kvs : List (DKey × D)} (h : cellD S d = some (n, t, kvs)) : d = .loc n ∧ S[n]? = some (some (.dct t kvs)) := by
  cases d with
  | loc m =>
    simp only [cellD] at h
    cases e : S[m]? with
    | none => rw [e] at h; cases h
    | some o =>
      rw [e] at h
      cases o with
      | none => cases h
      | some c =>
        cases c with
        | dct t' es => cases h; exact ⟨rfl, e⟩
        | _ => cases h
  | _ => cases h
def fSetI (o i d : D) (S : Store) : Option Store := match cellL S o with
  | some (n, ds) => match i with
    | .int k => match ixN ds.length k with
      | some j => some (S.set n (some (.lst (ds.set j d))))
      | none => none
    | _ => none
  | none => match cellD S o with
    | some (n, t, kvs) => match keyOf t i with
      | some kk => if kvs.length < sizeLine then some (S.set n (some (.dct t (dPut kvs kk d)))) else none
      | none => none
    | none => none
def rSetA : TSet := fun o i v H Q => rSetL o i v H Q ∨ rSetD o i v H Q
theorem set_any {X : Cx} (hu : X.A.units + 1 < cLine) : PSet X rSetA := by
  intro pins s σ H o i v ov iv u Q I ro ri rv h
  rcases h with h | h
  · exact set_list pins s σ H o i v ov iv u Q I ro ri rv h
  · exact set_dict hu pins s σ H o i v ov iv u Q I ro ri rv h
section
variable {K : PySem.W.Frag} {w : Wd}
theorem any_keyD {k : Key} : ∀ {kvs : List (DKey × D)} {ks : List (Key × V)}, RepD K w kvs ks → (kvs.any fun p => decide (p.1 = .inl k)) = ks.any fun p => decide (p.1 = k)
  | [], ks, h => by cases (show ks = _ from h); rfl
  | (k', d') :: r, ks, h => by
    obtain ⟨kk, v, ks', rfl, rfl, _, h2⟩ := h
    rw [List.any_cons, List.any_cons, any_keyD h2]
    simp
theorem any_keyT {k : List Key} : ∀ {kvs : List (DKey × D)} {ks : List (List Key × V)}, RepT K w kvs ks → (kvs.any fun p => decide (p.1 = .inr k)) = ks.any fun p => decide (p.1 = k)
  | [], ks, h => by cases (show ks = _ from h); rfl
  | (k', d') :: r, ks, h => by
    obtain ⟨kk, v, ks', rfl, rfl, _, h2⟩ := h
    rw [List.any_cons, List.any_cons, any_keyT h2]
    simp
theorem mapD_put {k : Key} {d : D} {v : V} (rv : Rep K w d v) : ∀ {kvs : List (DKey × D)} {ks : List (Key × V)}, RepD K w kvs ks → RepD K w (kvs.map fun p => if p.1 = .inl k then (p.1, d) else p) (ks.map fun p => if p.1 = k then (p.1, v) else p)
  | [], ks, h => by cases (show ks = _ from h); exact rfl
  | (k', d') :: r, ks, h => by
    obtain ⟨kk, u, ks', rfl, rfl, h1, h2⟩ := h
    by_cases e : kk = k
    · subst e
      simp only [List.map_cons, if_true]
      exact ⟨kk, v, _, rfl, rfl, rv, mapD_put rv h2⟩
    · have e' : ¬ ((Sum.inl kk : DKey) = .inl k) := fun z => e (Sum.inl.inj z)
      simp only [List.map_cons, if_neg e, if_neg e']
      exact ⟨kk, u, _, rfl, rfl, h1, mapD_put rv h2⟩
theorem mapT_put {k : List Key} {d : D} {v : V} (rv : Rep K w d v) : ∀ {kvs : List (DKey × D)} {ks : List (List Key × V)}, RepT K w kvs ks → RepT K w (kvs.map fun p => if p.1 = .inr k then (p.1, d) else p) (ks.map fun p => if p.1 = k then (p.1, v) else p)
  | [], ks, h => by cases (show ks = _ from h); exact rfl
  | (k', d') :: r, ks, h => by
    obtain ⟨kk, u, ks', rfl, rfl, h1, h2⟩ := h
    by_cases e : kk = k
    · subst e
      simp only [List.map_cons, if_true]
      exact ⟨kk, v, _, rfl, rfl, rv, mapT_put rv h2⟩
    · have e' : ¬ ((Sum.inr kk : DKey) = .inr k) := fun z => e (Sum.inr.inj z)
      simp only [List.map_cons, if_neg e, if_neg e']
      exact ⟨kk, u, _, rfl, rfl, h1, mapT_put rv h2⟩
theorem appD {k : Key} {d : D} {v : V} (rv : Rep K w d v) : ∀ {kvs : List (DKey × D)} {ks : List (Key × V)}, RepD K w kvs ks → RepD K w (kvs ++ [(.inl k, d)]) (ks ++ [(k, v)])
  | [], ks, h => by cases (show ks = _ from h); exact ⟨k, v, [], rfl, rfl, rv, rfl⟩
  | (k', d') :: r, ks, h => by
    obtain ⟨kk, u, ks', rfl, rfl, h1, h2⟩ := h
    exact ⟨kk, u, _, rfl, rfl, h1, appD rv h2⟩
theorem appT {k : List Key} {d : D} {v : V} (rv : Rep K w d v) : ∀ {kvs : List (DKey × D)} {ks : List (List Key × V)}, RepT K w kvs ks → RepT K w (kvs ++ [(.inr k, d)]) (ks ++ [(k, v)])
  | [], ks, h => by cases (show ks = _ from h); exact ⟨k, v, [], rfl, rfl, rv, rfl⟩
  | (k', d') :: r, ks, h => by
    obtain ⟨kk, u, ks', rfl, rfl, h1, h2⟩ := h
    exact ⟨kk, u, _, rfl, rfl, h1, appT rv h2⟩
theorem putD {k : Key} {d : D} {v : V} (rv : Rep K w d v) {kvs : List (DKey × D)} {ks : List (Key × V)} (h : RepD K w kvs ks) : RepD K w (dPut kvs (.inl k) d) (putK ks k v) := by
  unfold dPut putK
  rw [any_keyD h]
  split
  · exact mapD_put rv h
  · exact appD rv h
theorem putT {k : List Key} {d : D} {v : V} (rv : Rep K w d v) {kvs : List (DKey × D)} {ks : List (List Key × V)} (h : RepT K w kvs ks) : RepT K w (dPut kvs (.inr k) d) (putK ks k v) := by
  unfold dPut putK
  rw [any_keyT h]
  split
  · exact mapT_put rv h
  · exact appT rv h
theorem lenD : ∀ {kvs : List (DKey × D)} {ks : List (Key × V)}, RepD K w kvs ks → kvs.length = ks.length
  | [], ks, h => by cases (show ks = _ from h); rfl
  | (k', d') :: r, ks, h => by
    obtain ⟨kk, v, ks', rfl, rfl, _, h2⟩ := h
    simp [lenD h2]
theorem lenT : ∀ {kvs : List (DKey × D)} {ks : List (List Key × V)}, RepT K w kvs ks → kvs.length = ks.length
  | [], ks, h => by cases (show ks = _ from h); rfl
  | (k', d') :: r, ks, h => by
    obtain ⟨kk, v, ks', rfl, rfl, _, h2⟩ := h
    simp [lenT h2]
/-- a step of the store -/
def PostSt (K : PySem.W.Frag) (w : Wd) (o : Option Store) (Q : Wd → Prop) : Prop := match o with
  | some S' => ∀ w', Le w w' → SR K w' S' → Q w'
  | none => False
theorem set_of {S : Store} {o i d : D} {x y v : V} {Q : Hp → Prop} (s : SR K w S) (ro : Rep K w o x) (ri : Rep K w i y) (rd : Rep K w d v) (h : PostSt K w (fSetI o i d S) fun w' => Q w'.H) : rSetA x y v w.H Q := by
  unfold fSetI at h
  cases e : cellL S o with
  | some p =>
    obtain ⟨n, ds⟩ := p
    simp only [e] at h
    obtain ⟨rfl, h0⟩ := cellL_of e
    obtain ⟨a, rfl, ha⟩ := ro
    obtain ⟨nf, vs, k1, kz, k2⟩ := cell_at s h0 ha
    cases i with
    | int k =>
      cases (show y = _ from ri)
      simp only at h
      cases e2 : ixN ds.length k with
      | none => simp only [e2] at h; exact h.elim
      | some j =>
        simp only [e2] at h
        have lv := up_leV (u := .lst (vs.set j v)) s h0 ha
        refine .inl ⟨a, vs, k, j, rfl, rfl, k1, by rw [← k2.length]; exact e2, h (w.up a _) (up_le s h0 ha) (up_sr (c := .lst (ds.set j d)) s h0 ha ⟨_, upd_same, by rw [List.length_set]; exact kz, ?_⟩)⟩
        exact RepL.set (rep_leV lv _ _ rd) j (repL_leV lv _ _ k2)
    | _ => exact h.elim
  | none =>
    simp only [e] at h
    cases e1 : cellD S o with
    | none => simp only [e1] at h; exact h.elim
    | some p =>
      obtain ⟨n, t, kvs⟩ := p
      simp only [e1] at h
      obtain ⟨rfl, h0⟩ := cellD_of e1
      obtain ⟨a, rfl, ha⟩ := ro
      obtain ⟨nf, cr⟩ := cell_at s h0 ha
      cases e2 : keyOf t i with
      | none => simp only [e2] at h; exact h.elim
      | some kk =>
        simp only [e2] at h
        by_cases hz : kvs.length < sizeLine
        · rw [if_pos hz] at h
          cases t with
          | false =>
            obtain ⟨ks, h1, h2⟩ := cr
            obtain ⟨k, rfl, rfl⟩ := keyOf_k e2 ri
            have lv := up_leV (u := .dK (putK ks k v)) s h0 ha
            refine .inr ⟨a, _, rfl, DPut.k h1 (by rw [← lenD h2]; exact hz), h (w.up a _) (up_le s h0 ha) (up_sr (c := .dct false (dPut kvs (.inl k) d)) s h0 ha ⟨_, upd_same, ?_⟩)⟩
            exact putD (rep_leV lv _ _ rd) (repD_leV lv _ _ h2)
          | true =>
            obtain ⟨ks, h1, h2⟩ := cr
            obtain ⟨k, b, rfl, rfl, hb⟩ := keyOf_t e2 ri
            have lv := up_leV (u := .dT (putK ks k v)) s h0 ha
            refine .inr ⟨a, _, rfl, DPut.t h1 hb (by rw [← lenT h2]; exact hz), h (w.up a _) (up_le s h0 ha) (up_sr (c := .dct true (dPut kvs (.inr k) d)) s h0 ha ⟨_, upd_same, ?_⟩)⟩
            exact putT (rep_leV lv _ _ rd) (repT_leV lv _ _ h2)
        · rw [if_neg hz] at h
          exact h.elim
end
def gSubD (mo mi : EM) : GF := fun d env S => (mo env S).bind fun o S1 => (mi env S1).bind fun i S2 => match fSetI o i d S2 with
  | some S3 => .ok env S3
  | none => .no
section
variable {K : PySem.W.Frag} {W : WX} {x : Xc} {σ : L2.St} {H : Hp} {v : V} {Q : L2.St → Hp → Prop}
theorem sim_gsub {mo mi : EM} {sl : List Nat} (h : rdG K x sl (gSubD mo mi) v σ H Q) : gSub (rd K W x mo) (rd K W x mi) rSetA v σ H Q := by
  obtain ⟨w, env, S, d, rfl, s, er, rv, h⟩ := h
  unfold gSubD at h
  refine ⟨w, env, S, rfl, s, er, h.bind.post.mono fun o S1 w1 l1 s1 h1 u ru => ?_⟩
  refine ⟨w1, env, S1, rfl, s1, er.le l1, h1.bind.post.mono fun i S2 w2 l2 s2 h2 y ry => ?_⟩
  refine set_of s2 (rep_le l2 _ _ ru) ry (rep_le (l1.trans l2) _ _ rv) ?_
  cases e : fSetI o i d S2 with
  | none => simp only [e] at h2; exact h2.elim
  | some S3 =>
    simp only [e] at h2
    exact fun w3 l3 s3 => h2 w3 l3 s3 σ (er.le ((l1.trans l2).trans l3)) (SameOut.refl _ _)
end
/-! ### a thing of our own is handed out -/
def frzC : Cell → D
  | .lst ds => .lst ds
  | .dct t kvs => .dct t kvs
  | .ins c fs => .ins c fs
def mkC (c : Bool) (x : Cell) (S : Store) : R D := match c with
  | false => .ok (frzC x) S
  | true => .ok (.loc S.length) (S ++ [some x])
section
variable {K : PySem.W.Frag} {W : WX} {σ : L2.St} {Q : VK}
theorem own_mkC {w0 w : Wd} {S : Store} {c : Bool} {x : Cell} {p : Addr} {o : HO} (s : SR K w S) (hp : w0.H p = none) (h : Own w p o) (l : Le w0 w) (r : CellR K w p x)
    (hP : Post K W σ w0 (mkC c x S) (fun d _ w' => ∀ v, Rep K w' d v → Q v w'.H)) : Q (.ref p) w.H := by
  have ne : ∀ a o, w0.H a = some o → a ≠ p := fun a o z e => by rw [e, hp] at z; cases z
  cases c with
  | false =>
    have lv : LeV w ⟨w.ι, fun a => w.fz a ∨ a = p, w.H⟩ := ⟨⟨[], by simp⟩, fun _ z => .inl z, fun _ _ => rfl, fun _ _ z => z, fun _ _ _ z => z⟩
    have l2 : Le w0 ⟨w.ι, fun a => w.fz a ∨ a = p, w.H⟩ := by
      refine ⟨⟨l.io, fun a z => .inl (l.fz a z), l.fzH, l.tup, l.frz⟩, fun a o z1 z2 z3 => ?_⟩
      obtain ⟨k1, k2, k3⟩ := l.prv a o z1 z2 z3
      exact ⟨k1, fun z => z.elim k2 (ne a o z1), k3⟩
    have s2 : SR K ⟨w.ι, fun a => w.fz a ∨ a = p, w.H⟩ S := by
      refine ⟨s.len, fun l c q => ?_, s.inj, fun a z => ?_, s.iot⟩
      · obtain ⟨a, k1, k2, k3⟩ := s.cell l c q
        exact ⟨a, k1, fun z => z.elim k2 fun e => h.ni (e ▸ List.mem_of_getElem? k1), cell_leV lv rfl k3⟩
      · rcases z with z | z
        · exact s.fzt a z
        · exact ⟨_, by rw [z]; exact h.at_⟩
    refine hP _ l2 s2 (.ref p) ?_
    have r2 := cell_leV (a := p) lv rfl r
    cases x with
    | lst ds => obtain ⟨vs, k1, k2, k3⟩ := r2; exact ⟨p, vs, rfl, .inr rfl, k1, k2, k3⟩
    | dct t kvs =>
      cases t with
      | false => obtain ⟨ks, k1, k2⟩ := r2; exact ⟨p, ks, rfl, .inr rfl, k1, k2⟩
      | true => obtain ⟨ks, k1, k2⟩ := r2; exact ⟨p, ks, rfl, .inr rfl, k1, k2⟩
    | ins cc fs => obtain ⟨dx, vs, k1, k2⟩ := r2; exact ⟨p, dx, vs, rfl, .inr rfl, k1, k2⟩
  | true =>
    have lv : LeV w ⟨w.ι ++ [p], w.fz, w.H⟩ := ⟨⟨[p], rfl⟩, fun _ z => z, fun _ _ => rfl, fun _ _ z => z, fun _ _ _ z => z⟩
    have l2 : Le w0 ⟨w.ι ++ [p], w.fz, w.H⟩ := by
      refine ⟨⟨?_, l.fz, l.fzH, l.tup, l.frz⟩, fun a o z1 z2 z3 => ?_⟩
      · obtain ⟨t, e⟩ := l.io
        exact ⟨t ++ [p], by show w.ι ++ [p] = _; rw [e, List.append_assoc]⟩
      · obtain ⟨k1, k2, k3⟩ := l.prv a o z1 z2 z3
        exact ⟨k1, k2, fun z => (List.mem_append.mp z).elim k3 fun z => ne a o z1 (List.mem_singleton.mp z)⟩
    have hlt : ∀ {l : Nat} {c' : Cell}, (S ++ [some x])[l]? = some (some c') → (l < S.length ∧ S[l]? = some (some c')) ∨ (l = S.length ∧ c' = x) := fun {l c'} q => by
      by_cases hl : l < S.length
      · rw [List.getElem?_append_left hl] at q
        exact .inl ⟨hl, q⟩
      · rw [List.getElem?_append_right (by omega)] at q
        have e : l - S.length = 0 := by
          have := (List.getElem?_eq_some_iff.mp q).1
          simp at this
          omega
        rw [e] at q
        simp at q
        exact .inr ⟨by omega, q.symm⟩
    have last : (w.ι ++ [p])[S.length]? = some p := by
      rw [List.getElem?_append_right (by rw [s.len]; exact Nat.le_refl _), s.len, Nat.sub_self]
      rfl
    have ixo : ∀ {l : Nat} {a : Addr}, l < S.length → (w.ι ++ [p])[l]? = some a → w.ι[l]? = some a := fun {l a} hl q => by
      rw [List.getElem?_append_left (by rw [s.len]; exact hl)] at q
      exact q
    have s2 : SR K ⟨w.ι ++ [p], w.fz, w.H⟩ (S ++ [some x]) := by
      refine ⟨by simp [s.len], fun l c' q => ?_, fun l l' c1 c2 a q1 q2 q3 q4 => ?_, s.fzt, fun a z => ?_⟩
      · rcases hlt q with ⟨hl, q⟩ | ⟨rfl, rfl⟩
        · obtain ⟨a, k1, k2, k3⟩ := s.cell l c' q
          exact ⟨a, lv.ix k1, k2, cell_leV lv rfl k3⟩
        · exact ⟨p, last, h.nf, cell_leV lv rfl r⟩
      · rcases hlt q1 with ⟨hl, q1⟩ | ⟨rfl, rfl⟩
        · rcases hlt q2 with ⟨hl', q2⟩ | ⟨rfl, rfl⟩
          · exact s.inj l l' c1 c2 a q1 q2 (ixo hl q3) (ixo hl' q4)
          · have z : (w.ι ++ [p])[S.length]? = some a := q4
            rw [last] at z
            cases z
            exact absurd (List.mem_of_getElem? (ixo hl q3)) h.ni
        · rcases hlt q2 with ⟨hl', q2⟩ | ⟨rfl, rfl⟩
          · have z : (w.ι ++ [p])[S.length]? = some a := q3
            rw [last] at z
            cases z
            exact absurd (List.mem_of_getElem? (ixo hl' q4)) h.ni
          · rfl
      · rcases List.mem_append.mp z with z | z
        · exact s.iot a z
        · exact ⟨_, by rw [List.mem_singleton.mp z]; exact h.at_⟩
    exact hP _ l2 s2 (.ref p) ⟨p, rfl, last⟩
/-- an object just made -/
theorem new_mkC {w : Wd} {S : Store} {c : Bool} {x : Cell} {p : Addr} {o : HO} (s : SR K w S) (hp : w.H p = none) (r : CellR K (w.tp p o) p x)
    (hP : Post K W σ w (mkC c x S) (fun d _ w' => ∀ v, Rep K w' d v → Q v w'.H)) : Q (.ref p) (upd w.H p o) :=
  own_mkC (w0 := w) (w := w.tp p o) (sr_tp s hp) hp (Own.fresh s hp) (le_tp s hp) r hP
end
/-! ### dict displays -/
/-- {}: keys ints and texts | tuples -/
def eDict0 (c t : Bool) : EM := fun _ S => mkC c (.dct t []) S
section
variable {K : PySem.W.Frag} {W : WX} {x : Xc} {σ : L2.St} {H : Hp} {Q : VK}
theorem sim_dict0K {c : Bool} (h : rd K W x (eDict0 c false) σ H Q) : tDNewK σ H Q := by
  obtain ⟨w, env, S, rfl, s, er, h⟩ := h
  exact fun p hp => new_mkC (x := .dct false []) s hp ⟨[], upd_same, rfl⟩ h
theorem sim_dict0T {c : Bool} (h : rd K W x (eDict0 c true) σ H Q) : tDNewT σ H Q := by
  obtain ⟨w, env, S, rfl, s, er, h⟩ := h
  exact fun p hp => new_mkC (x := .dct true []) s hp ⟨[], upd_same, rfl⟩ h
/-- {k: v, ..}: the pairs from the left -/
def pairsF : List (EM × EM) → Env → Store → R (List (Key × D))
  | [], _, S => .ok [] S
  | (mk, mv) :: r, env, S => (mk env S).bind fun k S1 => (mv env S1).bind fun v S2 => match keyFl k with
    | some kk => (pairsF r env S2).bind fun ps S3 => .ok ((kk, v) :: ps) S3
    | none => .no
def mergeD (kvs : List (DKey × D)) : List (Key × D) → List (DKey × D)
  | [] => kvs
  | (k, d) :: r => mergeD (dPut kvs (.inl k) d) r
def eDictN (c : Bool) (ps : List (EM × EM)) : EM := fun env S => (pairsF ps env S).bind fun kvs S1 => mkC c (.dct false (mergeD [] kvs)) S1
/-- plain pairs -/
def RepP (K : PySem.W.Frag) (w : Wd) : List (Key × D) → List (Key × V) → Prop
  | [], ks => ks = []
  | (k, d) :: r, ks => ∃ v ks', ks = (k, v) :: ks' ∧ Rep K w d v ∧ RepP K w r ks'
theorem repP_le {w w' : Wd} (e : LeV w w') : ∀ {ps : List (Key × D)} {ks : List (Key × V)}, RepP K w ps ks → RepP K w' ps ks
  | [], _, h => h
  | (k, d) :: r, _, h => by
    obtain ⟨v, ks', h1, h2, h3⟩ := h
    exact ⟨v, ks', h1, rep_leV e _ _ h2, repP_le e h3⟩
theorem repP_len {w : Wd} : ∀ {ps : List (Key × D)} {ks : List (Key × V)}, RepP K w ps ks → ks.length = ps.length
  | [], _, h => by cases (show _ = _ from h); rfl
  | (k, d) :: r, _, h => by
    obtain ⟨v, ks', rfl, _, h3⟩ := h
    simp [repP_len h3]
theorem merge_rep {w : Wd} : ∀ {ps : List (Key × D)} {ks : List (Key × V)} {kvs : List (DKey × D)} {us : List (Key × V)}, RepP K w ps ks → RepD K w kvs us → RepD K w (mergeD kvs ps) (mergeK us ks)
  | [], _, _, _, h, r => by cases (show _ = _ from h); exact r
  | (k, d) :: t, _, kvs, us, h, r => by
    obtain ⟨v, ks', rfl, h2, h3⟩ := h
    exact merge_rep (ps := t) (ks := ks') h3 (putD h2 r)
theorem pairs_sim {p : Addr} {w0 : Wd} : ∀ {ps : List (EM × EM)} {w : Wd} {env : Env} {S : Store} {Qp : List (V × V) → Hp → Prop} {f : List (Key × D) → Store → R D} {F : D → Store → Wd → Prop}, SR K w S → EnvR K x w env σ → Le w0 w → Own w p (.dK []) →
    Post K W σ w0 ((pairsF ps env S).bind f) F →
    (∀ (kvs : List (Key × D)) (S1 : Store) (w' : Wd) (ks : List (Key × V)), kvs.length = ps.length → Post K W σ w0 (f kvs S1) F → Le w0 w' → Le w w' → SR K w' S1 → Own w' p (.dK []) → RepP K w' kvs ks → Qp (ks.map fun kv => (kV kv.1, kv.2)) w'.H) →
    tPairs (ps.map fun q => (rd K W x q.1, rd K W x q.2)) σ w.H Qp
  | [], w, env, S, Qp, f, F, s, er, l, ow, h, k => k [] S w [] rfl h l (Le.refl _) s ow rfl
  | (mk, mv) :: r, w, env, S, Qp, f, F, s, er, l, ow, h, k => by
    refine ⟨w, env, S, rfl, s, er, ?_⟩
    show Post K W σ w (mk env S) _
    simp only [pairsF] at h
    cases e1 : mk env S with
    | no => rw [e1] at h; exact h.elim
    | er y S1 => rw [e1] at h; exact fun w' cls dd l' s' x' => h w' cls dd (l.trans l') s' x'
    | ok kd S1 =>
      rw [e1, R.bind_ok] at h
      intro w1 l1 s1 u ru
      refine ⟨w1, env, S1, rfl, s1, er.le l1, ?_⟩
      show Post K W σ w1 (mv env S1) _
      cases e2 : mv env S1 with
      | no => rw [e2] at h; exact h.elim
      | er y S2 => rw [e2] at h; exact fun w' cls dd l' s' x' => h w' cls dd ((l.trans l1).trans l') s' x'
      | ok vd S2 =>
        rw [e2, R.bind_ok] at h
        intro w2 l2 s2 y ry
        cases e : keyFl kd with
        | none => simp only [e] at h; exact h.elim
        | some kk =>
          simp only [e] at h
          have eu := keyFl_of e (rep_le l2 _ _ ru)
          subst eu
          refine pairs_sim (f := fun ps S3 => f ((kk, vd) :: ps) S3) (F := F) s2 (er.le (l1.trans l2)) (l.trans (l1.trans l2)) ((ow.le l1).le l2) ?_ fun kvs S3 w3 ks hl h3 l3 l23 s3 ow3 rk => ?_
          · cases e3 : pairsF r env S2 with
            | no => rw [e3] at h; exact h.elim
            | er z S3 => rw [e3] at h; exact h
            | ok q S3 => rw [e3] at h; exact h
          · exact k ((kk, vd) :: kvs) S3 w3 ((kk, y) :: ks) (by simp [hl]) h3 l3 ((l1.trans l2).trans l23) s3 ow3 ⟨y, ks, rfl, rep_le l23 _ _ ry, rk⟩
theorem sim_dictN {c : Bool} {ps : List (EM × EM)} (hl : ps.length ≤ 15) (h : rd K W x (eDictN c ps) σ H Q) : tDisp (ps.map fun q => (rd K W x q.1, rd K W x q.2)) σ H Q := by
  obtain ⟨w, env, S, rfl, s, er, h⟩ := h
  intro p hp
  have l0 := le_tp (o := .dK []) s hp
  refine pairs_sim (w0 := w) (w := w.tp p (.dK [])) (p := p) (sr_tp s hp) (er.le l0) l0 (Own.fresh s hp) h fun kvs S1 w1 ks hlen h1 L _ s1 ow rk => ?_
  refine ⟨ow.at_, ks, rfl, by rw [repP_len rk, hlen]; exact hl, ?_⟩
  have nt : ∀ xs, HO.dK [] ≠ .tup xs := fun _ z => nomatch z
  have nf : ∀ b z, HO.dK [] ≠ .frz b z := fun _ _ z => nomatch z
  have lv := own_leV (S := S1) (u := .dK (mergeK [] ks)) ow nt nf
  exact own_mkC (c := c) (x := .dct false (mergeD [] kvs)) (w0 := w) (own_sr s1 ow nt nf) hp (own_up ow) (own_le hp ow L) ⟨_, upd_same, merge_rep (repP_le lv rk) rfl⟩ h1
end
end EV
/-! ## A11 -/
set_option Elab.async false
set_option linter.all false
set_option maxRecDepth 100000
set_option maxHeartbeats 2000000
/-! Part 11: what a def means; calls; tuple(..) whose object is known; isinstance; d.get. -/
namespace EV
open PySem PySem.Spec
open PyProof.Rows hiding St
open L2
/-! ### a def's end: what it made and nobody names is forgotten -/
mutual
/-- no cell at k or later is named -/
def lb (k : Nat) : D → Bool
  | .non => true
  | .bl _ => true
  | .int _ => true
  | .str _ => true
  | .tup ds => lbL k ds
  | .ktup ds => lbL k ds
  | .lst ds => lbL k ds
  | .scr ds => lbL k ds
  | .dct _ kvs => lbD k kvs
  | .loc n => decide (n < k)
  | .ty _ => true
  | .cls _ => true
  | .ins _ fs => lbF k fs
  | .exn _ fs => lbF k fs
def lbL (k : Nat) : List D → Bool
  | [] => true
  | d :: ds => lb k d && lbL k ds
def lbD (k : Nat) : List (DKey × D) → Bool
  | [] => true
  | (_, d) :: r => lb k d && lbD k r
def lbF (k : Nat) : List (Str × D) → Bool
  | [] => true
  | (_, d) :: r => lb k d && lbF k r
end
def Wd.cut (w : Wd) (k : Nat) : Wd := ⟨w.ι.take k, w.fz, w.H⟩
section
variable {K : PySem.W.Frag} {w : Wd} {k : Nat}
mutual
theorem rep_cut : ∀ (d : D) (v : V), lb k d = true → Rep K w d v → Rep K (w.cut k) d v
  | .non, _, _, h => h
  | .bl _, _, _, h => h
  | .int _, _, _, h => h
  | .str _, _, _, h => h
  | .tup ds, v, b, h => by
    obtain ⟨a, vs, h1, h2, hz, h3⟩ := h
    exact ⟨a, vs, h1, h2, hz, repL_cut ds vs b h3⟩
  | .ktup ds, v, b, h => by
    obtain ⟨a, vs, h1, h2, hz, h3⟩ := h
    exact ⟨a, vs, h1, h2, hz, repL_cut ds vs b h3⟩
  | .lst ds, v, b, h => by
    obtain ⟨a, vs, h1, z, h2, hz, h3⟩ := h
    exact ⟨a, vs, h1, z, h2, hz, repL_cut ds vs b h3⟩
  | .scr ds, v, b, h => by
    obtain ⟨a, vs, h1, h2, hz, h3⟩ := h
    exact ⟨a, vs, h1, h2, hz, repL_cut ds vs b h3⟩
  | .dct false kvs, v, b, h => by
    obtain ⟨a, ks, h1, z, h2, h3⟩ := h
    exact ⟨a, ks, h1, z, h2, repD_cut kvs ks b h3⟩
  | .dct true kvs, v, b, h => by
    obtain ⟨a, ks, h1, z, h2, h3⟩ := h
    exact ⟨a, ks, h1, z, h2, repT_cut kvs ks b h3⟩
  | .loc n, v, b, h => by
    obtain ⟨a, h1, h2⟩ := h
    refine ⟨a, h1, ?_⟩
    show (w.ι.take k)[n]? = some a
    have hn : n < k := by simpa [lb] using b
    rw [List.getElem?_take_of_lt hn]
    exact h2
  | .ty _, _, _, h => h
  | .cls _, _, _, h => h
  | .ins c fs, v, b, h => by
    obtain ⟨a, dx, vs, h1, z, h2, h3⟩ := h
    exact ⟨a, dx, vs, h1, z, h2, repF_cut fs vs b h3⟩
  | .exn _ _, _, _, h => h
theorem repL_cut : ∀ (ds : List D) (vs : List V), lbL k ds = true → RepL K w ds vs → RepL K (w.cut k) ds vs
  | [], _, _, h => h
  | d :: ds, vs, b, h => by
    obtain ⟨v, vs', h1, h2, h3⟩ := h
    simp only [lbL, Bool.and_eq_true] at b
    exact ⟨v, vs', h1, rep_cut d v b.1 h2, repL_cut ds vs' b.2 h3⟩
theorem repD_cut : ∀ (ds : List (DKey × D)) (vs : List (Key × V)), lbD k ds = true → RepD K w ds vs → RepD K (w.cut k) ds vs
  | [], _, _, h => h
  | (kk, d) :: ds, vs, b, h => by
    obtain ⟨k', v, vs', h1, h2, h3, h4⟩ := h
    simp only [lbD, Bool.and_eq_true] at b
    exact ⟨k', v, vs', h1, h2, rep_cut d v b.1 h3, repD_cut ds vs' b.2 h4⟩
theorem repT_cut : ∀ (ds : List (DKey × D)) (vs : List (List Key × V)), lbD k ds = true → RepT K w ds vs → RepT K (w.cut k) ds vs
  | [], _, _, h => h
  | (kk, d) :: ds, vs, b, h => by
    obtain ⟨k', v, vs', h1, h2, h3, h4⟩ := h
    simp only [lbD, Bool.and_eq_true] at b
    exact ⟨k', v, vs', h1, h2, rep_cut d v b.1 h3, repT_cut ds vs' b.2 h4⟩
theorem repF_cut : ∀ (ds : List (Str × D)) (vs : List (Str × V)), lbF k ds = true → RepF K w ds vs → RepF K (w.cut k) ds vs
  | [], _, _, h => h
  | (kk, d) :: ds, vs, b, h => by
    obtain ⟨v, vs', h1, h2, h3⟩ := h
    simp only [lbF, Bool.and_eq_true] at b
    exact ⟨v, vs', h1, rep_cut d v b.1 h2, repF_cut ds vs' b.2 h3⟩
end
theorem lbF_look {f : Str} {d : D} : ∀ {fs : List (Str × D)}, lbF k fs = true → fs.lookup f = some d → lb k d = true
  | [], _, h => by cases h
  | (g, e) :: r, b, h => by
    simp only [lbF, Bool.and_eq_true] at b
    rw [List.lookup_cons] at h
    split at h
    · cases h; exact b.1
    · exact lbF_look b.2 h
theorem le_cut {w0 : Wd} {S0 : Store} (s0 : SR K w0 S0) (l : Le w0 w) : Le w0 (w.cut S0.length) := by
  obtain ⟨t, e⟩ := l.io
  have e2 : (w.cut S0.length).ι = w0.ι := by
    show w.ι.take S0.length = w0.ι
    rw [e, ← s0.len, List.take_left]
  refine ⟨⟨⟨[], by rw [e2, List.append_nil]⟩, l.fz, l.fzH, l.tup, l.frz⟩, fun a o z1 z2 z3 => ?_⟩
  obtain ⟨k1, k2, k3⟩ := l.prv a o z1 z2 z3
  exact ⟨k1, k2, by rw [e2]; exact z3⟩
def lbC (k : Nat) : Cell → Bool
  | .lst ds => lbL k ds
  | .dct _ kvs => lbD k kvs
  | .ins _ fs => lbF k fs
mutual
theorem rep_lb : ∀ (d : D) (v : V), Rep K w d v → lb w.ι.length d = true
  | .non, _, h => rfl
  | .bl _, _, h => rfl
  | .int _, _, h => rfl
  | .str _, _, h => rfl
  | .tup ds, v, h => by obtain ⟨a, vs, h1, h2, hz, h3⟩ := h; exact repL_lb ds vs h3
  | .ktup ds, v, h => by obtain ⟨a, vs, h1, h2, hz, h3⟩ := h; exact repL_lb ds vs h3
  | .lst ds, v, h => by obtain ⟨a, vs, h1, z, h2, hz, h3⟩ := h; exact repL_lb ds vs h3
  | .scr ds, v, h => by obtain ⟨a, vs, h1, h2, hz, h3⟩ := h; exact repL_lb ds vs h3
  | .dct false kvs, v, h => by obtain ⟨a, ks, h1, z, h2, h3⟩ := h; exact repD_lb kvs ks h3
  | .dct true kvs, v, h => by obtain ⟨a, ks, h1, z, h2, h3⟩ := h; exact repT_lb kvs ks h3
  | .loc n, v, h => by
    obtain ⟨a, h1, h2⟩ := h
    exact decide_eq_true (List.getElem?_eq_some_iff.mp h2).1
  | .ty _, _, h => rfl
  | .cls _, _, h => rfl
  | .ins c fs, v, h => by obtain ⟨a, dx, vs, h1, z, h2, h3⟩ := h; exact repF_lb fs vs h3
  | .exn _ _, _, h => h.elim
theorem repL_lb : ∀ (ds : List D) (vs : List V), RepL K w ds vs → lbL w.ι.length ds = true
  | [], _, h => rfl
  | d :: ds, vs, h => by
    obtain ⟨v, vs', h1, h2, h3⟩ := h
    simp only [lbL, Bool.and_eq_true]
    exact ⟨rep_lb d v h2, repL_lb ds vs' h3⟩
theorem repD_lb : ∀ (ds : List (DKey × D)) (vs : List (Key × V)), RepD K w ds vs → lbD w.ι.length ds = true
  | [], _, h => rfl
  | (kk, d) :: ds, vs, h => by
    obtain ⟨k', v, vs', h1, h2, h3, h4⟩ := h
    simp only [lbD, Bool.and_eq_true]
    exact ⟨rep_lb d v h3, repD_lb ds vs' h4⟩
theorem repT_lb : ∀ (ds : List (DKey × D)) (vs : List (List Key × V)), RepT K w ds vs → lbD w.ι.length ds = true
  | [], _, h => rfl
  | (kk, d) :: ds, vs, h => by
    obtain ⟨k', v, vs', h1, h2, h3, h4⟩ := h
    simp only [lbD, Bool.and_eq_true]
    exact ⟨rep_lb d v h3, repT_lb ds vs' h4⟩
theorem repF_lb : ∀ (ds : List (Str × D)) (vs : List (Str × V)), RepF K w ds vs → lbF w.ι.length ds = true
  | [], _, h => rfl
  | (kk, d) :: ds, vs, h => by
    obtain ⟨v, vs', h1, h2, h3⟩ := h
    simp only [lbF, Bool.and_eq_true]
    exact ⟨rep_lb d v h2, repF_lb ds vs' h3⟩
end
theorem cell_lb {a : Addr} {c : Cell} (h : CellR K w a c) : lbC w.ι.length c = true := by
  cases c with
  | lst ds => obtain ⟨vs, h1, h2, h3⟩ := h; exact repL_lb _ _ h3
  | dct t kvs =>
    cases t with
    | false => obtain ⟨ks, h1, h2⟩ := h; exact repD_lb _ _ h2
    | true => obtain ⟨ks, h1, h2⟩ := h; exact repT_lb _ _ h2
  | ins cc fs => obtain ⟨dx, vs, h1, h2⟩ := h; exact repF_lb _ _ h2
/-- the cells that were there before name nothing that is new -/
def keepS (S0 S : Store) : Prop := ∀ l, l < S0.length → S[l]? = S0[l]? ∨ ∀ c, S[l]? = some (some c) → lbC S0.length c = true
theorem cell_cut {a : Addr} {c : Cell} (b : lbC k c = true) (h : CellR K w a c) : CellR K (w.cut k) a c := by
  cases c with
  | lst ds =>
    obtain ⟨vs, h1, h2, h3⟩ := h
    exact ⟨vs, h1, h2, repL_cut _ _ b h3⟩
  | dct t kvs =>
    cases t with
    | false => obtain ⟨ks, h1, h2⟩ := h; exact ⟨ks, h1, repD_cut _ _ b h2⟩
    | true => obtain ⟨ks, h1, h2⟩ := h; exact ⟨ks, h1, repT_cut _ _ b h2⟩
  | ins c fs =>
    obtain ⟨dx, vs, h1, h2⟩ := h
    exact ⟨dx, vs, h1, repF_cut _ _ b h2⟩
theorem sr_cut {w0 : Wd} {S0 S : Store} (s0 : SR K w0 S0) (s : SR K w S) (b : keepS S0 S) : SR K (w.cut S0.length) (S.take S0.length) := by
  generalize hk' : S0.length = k
  have at_ : ∀ {l : Nat} {c : Cell}, (S.take k)[l]? = some (some c) → l < k ∧ S[l]? = some (some c) := fun {l c} h => by
    have hl := (List.getElem?_eq_some_iff.mp h).1
    have hk : l < k := by
      rw [List.length_take] at hl
      omega
    rw [List.getElem?_take_of_lt hk] at h
    exact ⟨hk, h⟩
  have ix : ∀ {l : Nat} {a : Addr}, (w.cut k).ι[l]? = some a → w.ι[l]? = some a := fun {l a} h => by
    have hl : (w.ι.take k)[l]? = some a := h
    have h1 := (List.getElem?_eq_some_iff.mp hl).1
    rw [List.getElem?_take_of_lt (by rw [List.length_take] at h1; omega)] at hl
    exact hl
  refine ⟨by show (w.ι.take k).length = _; rw [List.length_take, List.length_take, s.len], fun l c h => ?_, fun l l' c c' a h1 h2 h3 h4 => ?_, s.fzt, fun a h => s.iot a (List.mem_of_mem_take h)⟩
  · obtain ⟨hk, h'⟩ := at_ h
    obtain ⟨a, k1, k2, k3⟩ := s.cell l c h'
    refine ⟨a, by show (w.ι.take k)[l]? = _; rw [List.getElem?_take_of_lt hk]; exact k1, k2, cell_cut ?_ k3⟩
    rcases b l (by rw [hk']; exact hk) with q | q
    · rw [q] at h'
      obtain ⟨a', _, _, k5⟩ := s0.cell l c h'
      have z := cell_lb k5
      rw [s0.len, hk'] at z
      exact z
    · have z := q c h'
      rw [hk'] at z
      exact z
  · exact s.inj l l' c c' a (at_ h1).2 (at_ h2).2 (ix h3) (ix h4)
theorem exR_cut {x : Ex} {cls : Value} {dd : Option Addr} (b : lbF k x.fs = true) (h : ExR K w x cls dd) : ExR K (w.cut k) x cls dd := by
  obtain ⟨h1, h⟩ := h
  refine ⟨h1, h.imp id fun ⟨d, vs, h2, h3, h4, h5, h6⟩ => ⟨d, vs, h2, h3, h4, fun z => h5 (List.mem_of_mem_take z), fun f d' q => ?_⟩⟩
  obtain ⟨v, k1, k2⟩ := h6 f d' q
  exact ⟨v, k1, rep_cut _ _ (lbF_look b q) k2⟩
/-- a cell stands still from now on -/
def Wd.frz (w : Wd) (a : Addr) : Wd := ⟨w.ι, fun b => w.fz b ∨ b = a, w.H⟩
theorem frz_leV {a : Addr} : LeV w (w.frz a) := ⟨⟨[], by simp [Wd.frz]⟩, fun _ z => .inl z, fun _ _ => rfl, fun _ _ z => z, fun _ _ _ z => z⟩
theorem frz_le {a : Addr} (h : a ∈ w.ι) : Le w (w.frz a) := ⟨frz_leV, fun b o z1 z2 z3 => ⟨z1, fun z => z.elim z2 fun e => z3 (by rw [e]; exact h), z3⟩⟩
theorem frz_sr {S : Store} {n : Nat} {c : Cell} {a : Addr} (s : SR K w S) (h0 : S[n]? = some (some c)) (ha : w.ι[n]? = some a) : SR K (w.frz a) (S.set n none) := by
  have was : ∀ {l : Nat} {c' : Cell}, (S.set n none)[l]? = some (some c') → l ≠ n ∧ S[l]? = some (some c') := fun {l c'} h => by
    by_cases e : n = l
    · subst e
      by_cases hl : n < S.length
      · rw [List.getElem?_set_self hl] at h; cases h
      · rw [List.getElem?_eq_none (by simpa using hl)] at h; cases h
    · rw [List.getElem?_set_ne e] at h
      exact ⟨fun z => e z.symm, h⟩
  refine ⟨by rw [List.length_set]; exact s.len, fun l c' h => ?_, fun l l' c1 c2 b h1 h2 h3 h4 => s.inj l l' c1 c2 b (was h1).2 (was h2).2 h3 h4, fun b z => ?_, s.iot⟩
  · obtain ⟨ne, h⟩ := was h
    obtain ⟨b, k1, k2, k3⟩ := s.cell l c' h
    refine ⟨b, k1, fun z => z.elim k2 fun e => ?_, cell_leV frz_leV rfl k3⟩
    exact ne (s.inj l n c' c a h h0 (by rw [← e]; exact k1) ha)
  · rcases z with z | z
    · exact s.fzt b z
    · rw [z]
      exact s.iot a (List.mem_of_getElem? ha)
end
def frzR (k : Nat) : R D → R D
  | .ok (.loc n) S => if k ≤ n then match S[n]? with
    | some (some c) => .ok (frzC c) (S.set n none)
    | _ => .ok (.loc n) S else .ok (.loc n) S
  | r => r
open Classical in
noncomputable def cutR (S0 : Store) : R D → R D
  | .ok d S => if lb S0.length d = true ∧ keepS S0 S then .ok d (S.take S0.length) else .ok d S
  | .er x S => if lbF S0.length x.fs = true ∧ keepS S0 S then .er x (S.take S0.length) else .er x S
  | .no => .no
section
variable {K : PySem.W.Frag} {W : WX} {σ : L2.St} {w : Wd} {Q : VK}
theorem frzC_rep {a : Addr} {c : Cell} (z : w.fz a) (h : CellR K w a c) : Rep K w (frzC c) (.ref a) := by
  cases c with
  | lst ds => obtain ⟨vs, h1, h2, h3⟩ := h; exact ⟨a, vs, rfl, z, h1, h2, h3⟩
  | dct t kvs =>
    cases t with
    | false => obtain ⟨ks, h1, h2⟩ := h; exact ⟨a, ks, rfl, z, h1, h2⟩
    | true => obtain ⟨ks, h1, h2⟩ := h; exact ⟨a, ks, rfl, z, h1, h2⟩
  | ins cc fs => obtain ⟨dx, vs, h1, h2⟩ := h; exact ⟨a, dx, vs, rfl, z, h1, h2⟩
theorem post_frzR {k : Nat} {r : R D} (h : Post K W σ w (frzR k r) (fun d _ w' => ∀ v, Rep K w' d v → Q v w'.H)) : Post K W σ w r (fun d _ w' => ∀ v, Rep K w' d v → Q v w'.H) := by
  cases r with
  | no => exact h
  | er x S => exact h
  | ok d S =>
    cases d with
    | loc n =>
      simp only [frzR] at h
      split at h
      · split at h
        · rename_i c h0
          intro w' l s v rv
          obtain ⟨a, rfl, ha⟩ := rv
          have hm := List.mem_of_getElem? ha
          obtain ⟨nf, cr⟩ := cell_at s h0 ha
          exact h (w'.frz a) (l.trans (frz_le hm)) (frz_sr s h0 ha) (.ref a) (frzC_rep (.inr rfl) (cell_leV frz_leV rfl cr))
        · exact h
      · exact h
    | _ => exact h
theorem post_cutR {S0 : Store} {r : R D} (s0 : SR K w S0) (h : Post K W σ w (cutR S0 r) (fun d _ w' => ∀ v, Rep K w' d v → Q v w'.H)) : Post K W σ w r (fun d _ w' => ∀ v, Rep K w' d v → Q v w'.H) := by
  cases r with
  | no => exact h
  | er x S =>
    simp only [cutR] at h
    split at h
    · rename_i b
      exact fun w' cls dd l s e => h (w'.cut S0.length) cls dd (le_cut s0 l) (sr_cut s0 s b.2) (exR_cut b.1 e)
    · exact h
  | ok d S =>
    simp only [cutR] at h
    split at h
    · rename_i b
      exact fun w' l s v rv => h (w'.cut S0.length) (le_cut s0 l) (sr_cut s0 s b.2) v (rep_cut _ _ b.1 rv)
    · exact h
end
/-! ### what a def promises -/
def env0 (n : Nat) (ds : List D) : Env := ds.map some ++ List.replicate (n - ds.length) none
def outR (o : SO) : R D := match o with
  | .nx _ S => .ok .non S
  | .rt d S => .ok d S
  | .er x _ S => .er x S
  | _ => .no
/-- np parameters, n names; fz: a new list that it returns is never changed -/
noncomputable def defM (fz : Bool) (np n : Nat) (m : SM) : FN := fun ds S => if ds.length = np then cutR S (if fz then frzR S.length (outR (m (env0 n ds) S)) else outR (m (env0 n ds) S)) else .no
def spD (K : PySem.W.Frag) (m : FN) : Sp := fun vs H Q E => ∃ w S ds, w.H = H ∧ SR K w S ∧ RepL K w ds vs ∧ Post K (fun cls d _ H => E cls d H) [] w (m ds S) (fun d _ w' => ∀ v, Rep K w' d v → Q v w'.H)
def FnD (P : Program) (wd : World) (K : PySem.W.Frag) (mg : Str → Option Value) (base : Heap) (k : Nat) (f : Addr) (m : FN) : Prop := FnR P wd K mg base (L2.CX P wd) k f (spD K m)
theorem fnD_no {P : Program} {wd : World} {K : PySem.W.Frag} {mg : Str → Option Value} {base : Heap} {k : Nat} {f : Addr} : FnD P wd K mg base k f (fun _ _ => .no) := by
  intro A outer s H us vs Q E _ _ _ h
  obtain ⟨_, _, _, _, _, _, h⟩ := h
  exact h.elim
theorem FnD.le {P : Program} {wd : World} {K : PySem.W.Frag} {mg : Str → Option Value} {base : Heap} {j k : Nat} {f : Addr} {m : FN} (F : FnD P wd K mg base j f m) (h : j ≤ k) : FnD P wd K mg base k f m := FnR.mono F h
section
variable {K : PySem.W.Frag} {w : Wd}
theorem start_env {ds : List D} {vs : List V} {N : List Str} (r : RepL K w ds vs) : EnvR K none w (env0 N.length ds) (start N vs) := by
  have hl := r.length
  refine ⟨by simp [env0, L2.start, hl], fun j d h => ?_⟩
  have hj : j < ds.length := by
    by_cases hj : j < ds.length
    · exact hj
    · unfold env0 at h
      rw [List.getElem?_append_right (by simpa using hj), List.getElem?_replicate] at h
      split at h <;> cases h
  unfold env0 at h
  rw [List.getElem?_append_left (by simpa using hj), List.getElem?_map] at h
  have hd : ds[j]? = some d := by
    cases e : ds[j]? with
    | none => rw [e] at h; cases h
    | some a => rw [e] at h; cases h; rfl
  obtain ⟨v, e, rv⟩ := r.get hd
  refine ⟨v, ?_, .inl rv⟩
  unfold L2.start
  rw [List.getElem?_append_left (by rw [List.length_map, ← hl]; exact hj), List.getElem?_map, e]
  rfl
theorem outR_post {E : XK} {Q : VK} {o : SO} (h : Post K (fun cls d _ H => E cls d H) [] w (outR o) (fun d _ w' => ∀ v, Rep K w' d v → Q v w'.H)) : PostS K (fun cls d _ H => E cls d H) none w o { nx := fun _ H' => Q .non H', rt := Q } := by
  cases o with
  | nx env S => exact fun w' σ' l s er => h w' l s .non rfl
  | rt d S => exact fun w' v l s rv => h w' l s v rv
  | bk env S => exact h.elim
  | ct env S => exact h.elim
  | er x env S => exact fun w' σ' cls dd l s er e => h w' cls dd l s e
  | no => exact h.elim
end
/-- a def, by what its body means -/
theorem fnD_of {P : Program} {wd : World} {K : PySem.W.Frag} {mg : Str → Option Value} {base : Heap} {k : Nat} {f : Addr} {name qual : Str} {params : Arguments} {body : List Stmt} {scope : Scope} {dV kV doc pm cdv ct oc : Value} {an od : Option Addr}
    {osl : Array (Option Value)} {N ps : List Str} {m : SM} {fz : Bool} {np n : Nat} (lk : K.lookup f = some ⟨oc, od, .func (PySem.W.fnOf name qual params body scope dV kV doc pm an cdv ct), osl⟩) (hcd : PySem.W.codeIn K cdv qual = true) (S : FnScope N ps scope)
    (hb : ∀ us : List Value, us.length = ps.length → bindArgs (PySem.W.fnOf name qual params body scope dV kV doc pm an cdv ct) ⟨us, []⟩ = pure (ps.zip us)) (hnp : np = ps.length) (hn : n = N.length)
    (hbody : ∀ (A : Around) (outer : List PySem.Env) (s : Shared) (H : Hp) (E : XK), Room k (A.deeper (envOfC qual scope s.heap.objs.size f cdv)) →
      PSs (cxOf (L2.CX P wd) P wd K mg base N qual scope f cdv A outer s H E) body (rdS K (fun cls d _ H => E cls d H) none m)) :
    FnD P wd K mg base (k + 1) f (defM fz np n m) := by
  have F : FnOk P wd K mg base (L2.CX P wd) (k + 1) f (PySem.W.fnOf name qual params body scope dV kV doc pm an cdv ct) ps (spD K (defM fz np n m)) := by
    refine fn_of lk hcd S (fun vs H Q E h => ?_) fun A outer s H vs Q E hr h => ⟨_, hbody A outer s H E hr, ?_⟩
    · obtain ⟨w, S, ds, _, _, r, h⟩ := h
      unfold defM at h
      by_cases e : ds.length = np
      · rw [← r.length, e, hnp]
      · rw [if_neg e] at h
        exact h.elim
    · obtain ⟨w, S, ds, rfl, s1, r, h⟩ := h
      unfold defM at h
      by_cases e : ds.length = np
      · rw [if_pos e] at h
        have h2 := post_cutR s1 h
        have h3 : Post K (fun cls d _ H => E cls d H) [] w (outR (m (env0 n ds) S)) (fun d _ w' => ∀ v, Rep K w' d v → Q v w'.H) := by
          cases fz with
          | true => exact post_frzR h2
          | false => exact h2
        rw [hn] at h3
        exact ⟨w, _, S, rfl, s1, start_env r, outR_post h3⟩
      · rw [if_neg e] at h
        exact h.elim
  intro A outer s H us vs Q E hr e0 r h
  have hl : us.length = ps.length := by
    rw [← r.length]
    exact F.len _ _ _ _ h
  exact F.run A outer s H ⟨us, []⟩ us vs Q E hr e0 (BindsTo.of_eq (hb us hl)) r h
/-! ### calls of a def -/
section
variable {X : Cx} {CX : CXT} {k : Nat} {f : Addr} {sp : Sp} {E : L2.St → XK} {x : Str} {p pos : Pos} {e : Expr} {es : List Expr} {t : TA}
theorem run_fnR {pins : List (Addr × Obj)} {σ : L2.St} {H : Hp} {s : Shared} {Q : VK} {us : List Value} {vs : List V} (F : FnR X.prog X.w X.K X.mg X.base CX k f sp) (hr : Room k X.A) (hx : PassesAt CX X σ (E σ))
    (I : Inv X pins σ H s) (r : Vals vs us) (h : sp vs H Q (E σ)) : wpAny (model X.prog X.w) X.A (call (.ref f) us) (EP X pins σ Q) X.xe s := by
  refine wpAny_call (codeAny_mono (F X.A X.stack s H us vs Q (E σ) hr I.env0 r h) fun r s' hq => ?_)
  cases r with
  | error e => exact hx pins H s e s' I hq
  | ok fl =>
    cases fl with
    | ret u => exact I.after hq
    | next => exact False.elim hq
    | brk => exact False.elim hq
    | cont => exact False.elim hq
theorem pe_callR (F : FnR X.prog X.w X.K X.mg X.base CX k f sp) (hr : Room k X.A) (hg : Gl X x) (hm : X.mg x = some (.ref f)) (hk : PySem.W.keepIn X.K (.ref f) = true) (hx : ∀ σ, PassesAt CX X σ (E σ)) (ha : PA X (e :: es) t)
    (hdb : (x == ("__debug__" : Str)) = false) (he : starEach (e :: es) X.env = (false, eval e X.env) :: starEach es X.env) (hpl : (backTo pos (starEach es X.env)).any (·.1) = false) : PE X (.Call (.Name x p) (e :: es) [] pos) (tCallS sp E t) := by
  refine ⟨fun pins s σ H Q I h => ?_⟩
  refine wpAny_Call_Name_kw (ld_glob I hg hm ?_ hdb)
  refine PySem.W.callWith_K (h₀ := X.base) I.ok.mod.kin hk (thn (ha.run pos pins s σ H _ I h) fun us s1 ⟨vs, H1, I1, r, q⟩ => ⟨I1.kIn, ?_⟩) he hpl
  exact run_fnR F hr (hx σ) I1 r q
theorem pe_callR0 (F : FnR X.prog X.w X.K X.mg X.base CX k f sp) (hr : Room k X.A) (hg : Gl X x) (hm : X.mg x = some (.ref f)) (hk : PySem.W.keepIn X.K (.ref f) = true) (hx : ∀ σ, PassesAt CX X σ (E σ))
    (hdb : (x == ("__debug__" : Str)) = false) : PE X (.Call (.Name x p) [] [] pos) (tCallS sp E tNil) := by
  refine ⟨fun pins s σ H Q I h => ?_⟩
  refine wpAny_Call_Name_kw (ld_glob I hg hm ?_ hdb)
  exact PySem.W.callWith_K0 I.kIn hk (run_fnR F hr (hx σ) I .nil h)
end
section
variable {K : PySem.W.Frag} {W : WX} {x : Xc} {σ : L2.St} {H : Hp} {Q : VK}
theorem post_at0 {α : Type} {w : Wd} {r : R α} {P : α → Store → Wd → Prop} (h : Post K W σ w r P) : Post K (fun cls d _ H => W cls d σ H) [] w r P := by
  cases r with
  | ok d S => exact h
  | er y S => exact h
  | no => exact h
theorem sim_call {m : FN} {ms : List EM} (h : rd K W x (eApp m ms) σ H Q) : tCallS (spD K m) (WE W) (rdA K W x (aList ms)) σ H Q := by
  obtain ⟨w, env, S, rfl, s, er, h⟩ := h
  exact ⟨w, env, S, rfl, s, er, h.bind.mono fun ds S1 w1 l1 s1 h1 vs rv => ⟨w1, S1, ds, rfl, s1, rv, post_at0 h1⟩⟩
end
end EV
/-! ## B1 -/
set_option Elab.async false
set_option linter.all false
set_option maxRecDepth 100000
set_option maxHeartbeats 2000000
/-! Part B1: super().__init__(..) in an own exception's __init__. -/
namespace EV0
open PySem PySem.Spec
open PyProof.Rows hiding St
open L2 NdefX
open PySem.W (ks_superIn ks_superObj kxs_mw kxs_ValueError)
/-- what the written part says: an instance of the class at C, whose __init__ stands in the class at D -/
structure SupC (K : PySem.W.Frag) (C D : Addr) : Prop where
  oex : OexC K C
  mro : PySem.W.mroIn K C (.ref D) = some true
  sup : ks_superIn K C D "__init__" = some (some (.builtin "ValueError.__init__"))
  isV : PySem.W.subIn K (.ref C) (.type "ValueError") = some true
  opq : PySem.W.nsIn K PySem.cStatics "thirdparty.any" = some none
/-- the def's own facts -/
structure SupF (K : PySem.W.Frag) (P : Program) (mg : Str → Option Value) (f cda cc D : Addr) (fd : FuncData) (a0 : Str) : Prop where
  fn : ∃ oc od osl, K.lookup f = some ⟨oc, od, .func fd, osl⟩
  par : ∃ ar, (fd.params.posonlyargs ++ fd.params.args).head? = some ar ∧ ar.arg = a0
  code : ∃ oc od vs sl file tk, K.lookup cda = some ⟨oc, od, .fields vs, sl⟩ ∧ vs[2]? = some (.str file tk) ∧ ((P.main.file : Str) == file) = true
  cell : ∃ oc od sl, K.lookup cc = some ⟨oc, od, .cell (some (.ref D)), sl⟩
  clsD : (PySem.W.clsIn K D).isSome = true
  top : (P.main.scope.names.lookup ("super" : Str)).isSome = false
section
variable {P : Program} {wd : World} {K : PySem.W.Frag} {A : Around} {E : Value → Shared → Prop} {h : Heap} {g : Array GenState} {d : Drawn} {t : Nat} {os : OsState}
/-- the bound __init__ is called: the args are laid anew -/
theorem call_mwV {nm q : Str} {C N : Addr} {bs bm : List Value} {hdct : Bool} {sn : List Str} {sub : List Value} {ab : Bool} {col : Option Bool} {dd : Option Addr} {k0 k1 k2 k3 k5 : Option Value} {u e t0 : Addr} {rest : List Value} {Q : Value → Shared → Prop}
    (hC : h.get? C = some (excClassObj nm q C N bs bm hdct sn sub ab col dd k0 k1 k2 k3 k5 "ValueError.__new__")) (he : h.get? e = some (HandSPX.excO C t0)) (hu : h.get? u = some (kxs_mw "ValueError.__init__" e)) (hrest : rest.length ≤ sizeLine)
    (hq : ∀ h' t1, (∀ b o, b ≠ e → h.get? b = some o → h'.get? b = some o) → h'.get? e = some (HandSPX.excO C t1) → Q .none ⟨h', g, d, t, os⟩) :
    wpAny (model P wd) A (call (.ref u) rest) Q E ⟨h, g, d, t, os⟩ := by
  refine wpAny_call (codeAny_of_tree ?_)
  show wpAny _ A.in1 (callAny (.ref u) ⟨rest, []⟩) _ _ _
  simp only [callAny]
  refine wpAny_bind (wpAny_load hu ?_)
  simp only [kxs_mw, show (Value.type "method-wrapper" == Value.type "method" || Value.type "method-wrapper" == Value.type "builtin_function_or_method" || Value.type "method-wrapper" == Value.type "method-wrapper") = true by decide, if_true]
  refine W.KFB.if_so (by decide) ?_
  refine wpAny_bind (PySem.W.check_bound_init F.excBase_ValueError.toExcCallFacts hC he rfl ?_)
  refine wpAny_bind (wpAny_pure (wpAny_pure ?_))
  refine ⟨Code.quiet_builtin _ (by decide +kernel), codeAny_builtin F.excBase_ValueError.initEntry ?_⟩
  rw [Around.under_plainId F.excBase_ValueError.init.plain _]
  wp_walk
  refine hq _ h.objs.size (fun b o hb ho => ?_) ?_
  · rw [Heap.get?_update_other _ _ (Ne.symm hb)]
    exact Heap.get?_push_of_some _ ho
  · rw [Heap.get?_update_self _ (Heap.get?_push_of_some _ he) rfl]
    rfl
end
section
variable {X : Cx} {pins : List (Addr × Obj)} {σ : L2.St} {H : Hp} {s : Shared} {a C D : Addr}
/-- the call of it, our state told -/
theorem mw_ok {A : Around} {E : Value → Shared → Prop} {u : Addr} {us : List Value} {Q : Value → Shared → Prop} (T : OexC X.K C) (I : Inv X pins σ H s) (e : H a = some (exo a C none)) (hu : s.heap.get? u = some (kxs_mw "ValueError.__init__" a)) (hl : us.length ≤ sizeLine) (h : ∀ s', Inv X pins σ H s' → Q .none s') :
    wpAny (model X.prog X.w) A (call (.ref u) us) Q E s := by
  obtain ⟨nm, q, N, bs, bm, sn, sub, ab, col, dd, k0, k1, k2, k3, k5, hC, hbm⟩ := T.cls
  obtain ⟨t1, ho⟩ := exo_at I.hok e
  obtain ⟨hp, g, d, t, os⟩ := s
  refine call_mwV (I.kIn _ _ hC) ho hu hl fun h' t2 k hx => ?_
  have J := I.write (t' := t) (x := a) (e := a) (o := exo a C none) (by rw [e]; exact True.intro) (.inl rfl) k ⟨_, hx⟩ (exo_ok hx)
  have eu : upd H a (exo a C none) = H := by
    funext b
    by_cases hb : b = a
    · rw [hb, upd_same, e]
    · rw [upd_ne hb]
  rw [eu] at J
  exact h _ J
/-- super().__init__, the receiver a tracked exception that is being made: the bound __init__ -/
theorem sup_get {A : Around} {E : Value → Shared → Prop} {so : Addr} {pl : Sem Bool} {Q : Value × List Value → Shared → Prop} (T : SupC X.K C D) (I : Inv X pins σ H s) (e : H a = some (exo a C none)) (hso : s.heap.get? so = some (ks_superObj D a C))
    (h : ∀ u s', Inv X pins σ H s' → s'.heap.get? u = some (kxs_mw "ValueError.__init__" a) → FpOk X pins H u → Q (.ref u, []) s') :
    wpAny (model X.prog X.w) A (getMethod (.ref so) "__init__" pl) Q E s := by
  obtain ⟨t1, ho⟩ := exo_at I.hok e
  have Xk := I.kIn
  have hI : PySem.W.InstAt s.heap a (HandSPX.excO C t1) C none := ⟨ho, rfl, rfl, trivial⟩
  obtain ⟨hh, g, d, t, os⟩ := s
  cases hc : PySem.W.clsIn X.K C with
  | none =>
    have q := T.sup
    unfold ks_superIn at q
    rw [hc] at q
    cases q
  | some cd =>
    have q := T.sup
    unfold ks_superIn at q
    rw [hc] at q
    refine PySem.W.kxs_getMethod kxs_ValueError hso (PySem.W.looks_opaque Xk T.opq) (l₀ := cd.mro) (fun A Q E s k q => wpAny_bind ((PySem.W.looks_clsIn Xk hc) A _ E s k (wpAny_pure q))) rfl Xk q (hI.type.andThen (PySem.W.looks_subIn Xk T.isV)) (PySem.W.ks_ne Xk hI hc) (by decide) ?_
    have J : Inv X pins σ H ⟨hh.push (kxs_mw "ValueError.__init__" a), g, d, t + 1, os⟩ := I.kept (t' := t + 1) fun b o e => Heap.get?_push_of_some _ e
    exact h _ _ J (Heap.get?_push_size _ rfl) (I.fpOk (Nat.le_refl _) (I.hok.fresh (Nat.le_refl _)))
end
section
variable {P : Program} {wd : World} {K : PySem.W.Frag} {mg : Str → Option Value} {base : Heap} {k : Nat} {f cda cc D : Addr} {name qual : Str} {params : Arguments} {body : List Stmt} {scope : Scope} {dV kV doc pm ct : Value} {an : Option Addr}
    {N ps : List Str} {a0 : Str} {e1 : Expr} {rest : List Stmt} {p0 p1 p2 p3 p4 : Pos} {sp : Sp} {pl : Sem Bool}
abbrev supNF (name qual : Str) (params : Arguments) (body : List Stmt) (scope : Scope) (cc cda : Addr) : NF := ⟨name, qual, params, body, scope, [("__class__", cc)], cda⟩
/-- def __init__(self, ..): super().__init__(e1); rest, of an own exception class over ValueError -/
theorem fnr_super {CX : CXT} (SF : SupF K P mg f cda cc D (PySem.W.fnX name qual params body scope [("__class__", cc)] dV kV doc pm an (.ref cda) ct) a0) (hcd : PySem.W.codeIn K (.ref cda) qual = true) (S : NScope N ps ["__class__"] scope) (hps : ps.head? = some a0)
    (hks : scope.names.lookup ("super" : Str) = some .globalImplicit) (hsm : mg "super" = none)
    (hb : ∀ us : List Value, us.length = ps.length → bindArgs (PySem.W.fnX name qual params body scope [("__class__", cc)] dV kV doc pm an (.ref cda) ct) ⟨us, []⟩ = pure (ps.zip us))
    (hbd : body = .Expr (.Call (.Attribute (.Call (.Name "super" p0) [] [] p1) "__init__" p2) [e1] [] p3) p4 :: rest)
    (hst : ∀ env, starEach [e1] env = (false, eval e1 env) :: starEach [] env) (hsw : ∀ env, swapsWith (.Call (.Attribute (.Call (.Name "super" p0) [] [] p1) "__init__" p2) [e1] [] p3) none p4.line env = pure false)
    (hev : ∀ env, eval (.Call (.Attribute (.Call (.Name "super" p0) [] [] p1) "__init__" p2) [e1] [] p3) env = (do
      let ov ← attributeBase (.Call (.Name "super" p0) [] [] p1) "__init__" env (eval (.Call (.Name "super" p0) [] [] p1) env)
      standAt p2.atName
      let (f, first) ← holding [ov] (getMethod ov "__init__" pl)
      callWith p3 f first (backTo p3 (starEach [e1] env)) []))
    (hbody : ∀ (A : Around) (outer : List PySem.Env) (s : Shared) (H : Hp) (vs : List V) (Q : VK) (E : XK), Room k (A.deeper (envF (supNF name qual params body scope cc cda) f s.heap.objs.size)) → sp vs H Q E →
      ∃ (a C : Addr) (ws : List V) (te : TE) (t : TS), vs = .ref a :: ws ∧ vs.length = ps.length ∧ H a = some (exo a C none) ∧ SupC K C D ∧ PE (ncx CX P wd K mg base N (supNF name qual params body scope cc cda) f A outer s H E) e1 te ∧
        PSs (ncx CX P wd K mg base N (supNF name qual params body scope cc cda) f A outer s H E) rest t ∧
        te (startF N vs [none]) H (fun _ H1 => H1 a = some (exo a C none) ∧ t { nx := fun _ H' => Q .non H', rt := Q } (startF N vs [none]) H1)) :
    FnR P wd K mg base CX (k + 1) f sp := by
  intro A outer s H us vs Q E hr e0 r hsp
  obtain ⟨a, C, ws, te, t, rfl, hl, hea, SC, he1, hrest, ht⟩ := hbody A outer s H vs Q E (hr.deeper _) hsp
  have KX : K.In s.heap := e0.mod.kin.keeps fun b o e => (e0.bs b o e).1
  have lim : s.heap.NoLimit := e0.mod.nolimit.keeps fun b o e => (e0.bs b o e).1
  obtain ⟨oc, od, osl, lk⟩ := SF.fn
  obtain ⟨cc1, cc2, cc3, hcell⟩ := SF.cell
  have hcb : s.heap.get? cc = some ⟨cc1, cc2, .cell (some (.ref D)), cc3⟩ ∧ H cc = none := e0.bs _ _ (e0.mod.kin _ _ hcell)
  have CA : CellsAt [("__class__", cc)] ["__class__"] [none] s.heap H := by
    have one : ∀ {y : Str} {c : Addr}, [(("__class__" : Str), cc)].lookup y = some c → y = "__class__" ∧ c = cc := fun {y c} h => by
      rw [List.lookup_cons] at h
      split at h
      · rename_i q
        cases h
        exact ⟨by simpa using q, rfl⟩
      · cases h
    refine ⟨rfl, fun y c h => ?_, fun x y c h1 h2 => (one h1).1.trans (one h2).1.symm, fun i y h => ?_⟩
    · obtain ⟨_, rfl⟩ := one h
      exact ⟨hcb.2, some (.ref D), _, hcb.1, rfl⟩
    · cases i with
      | zero =>
        simp at h
        subst h
        exact ⟨cc, by simp [List.lookup], fun v z => by simp at z⟩
      | succ i => simp at h
  refine ks_codeAny_call_defAt (binds := ps.zip us) hr.depth (KX _ _ lk) rfl lim (PySem.W.codeRec_of KX hcd) rfl (BindsTo.of_eq (hb us (by rw [← r.length]; exact hl))) S.nocell (fun y hy => S.par y.1 (List.of_mem_zip hy).1) (fun h₁ hns kp => ?_) S.co S.gen S.kind
  have I : Inv (ncx CX P wd K mg base N (supNF name qual params body scope cc cda) f A outer s H E) [] (startF N (.ref a :: ws) [none]) H { s with heap := h₁, toks := s.toks + (ps.zip us).length } := inv_startN (F := supNF name qual params body scope cc cda) S hr.hd e0 hl r CA hns kp
  generalize hX : ncx CX P wd K mg base N (supNF name qual params body scope cc cda) f A outer s H E = X at I he1 hrest
  -- the frame's environment
  have eEnv : X.env = envF (supNF name qual params body scope cc cda) f s.heap.objs.size := by rw [← hX] <;> rfl
  have eA : X.A = A.deeper (envF (supNF name qual params body scope cc cda) f s.heap.objs.size) := by rw [← hX] <;> rfl
  have eP : X.prog = P := by rw [← hX] <;> rfl
  have ew : X.w = wd := by rw [← hX] <;> rfl
  have eK : X.K = K := by rw [← hX] <;> rfl
  have emg : X.mg = mg := by rw [← hX] <;> rfl
  have eN : X.N = N := by rw [← hX] <;> rfl
  have exe : X.xe = fun e s' => wpAny (model P wd) (A.deeper (envF (supNF name qual params body scope cc cda) f s.heap.objs.size)) (leaving (envF (supNF name qual params body scope cc cda) f s.heap.objs.size) e) (fun _ s'' => CX outer H s E e s'') (fun e' s'' => CX outer H s E e' s'') s' := by rw [← hX] <;> rfl
  have fin : ∀ {fl : Flow} {s' : Shared}, SP X [] { nx := fun _ H' => Q .non H', rt := Q } fl s' → CR CX outer P wd H s Q E (.ok (.ret (match fl with | .ret v => v | _ => .none))) s' := fun {fl s'} hs => by
    have end_ : ∀ {σ' : L2.St} {H' : Hp} {v : V} {u : Value}, Inv X [] σ' H' s' → L2.RelV v u → Q v H' → CE outer P wd H s Q u s' := fun {σ' H' v u} J rv q => by
      subst hX
      exact ⟨v, H', J.os, J.bare, J.base, J.hok, rv, q⟩
    cases fl with
    | ret u =>
      obtain ⟨v, σ', H', J, rv, q⟩ := hs
      exact end_ J rv q
    | next =>
      obtain ⟨σ', H', J, q⟩ := hs
      exact end_ (v := V.non) (u := Value.none) J rfl q
    | brk =>
      obtain ⟨_, _, _, q⟩ := hs
      exact False.elim q
    | cont =>
      obtain ⟨_, _, _, q⟩ := hs
      exact False.elim q
  suffices go : PySem.wpAt (model X.prog X.w) X.A (.func body X.env) (execs body X.env) (SP X [] { nx := fun _ H' => Q .non H', rt := Q }) X.xe { s with heap := h₁, toks := s.toks + (ps.zip us).length } by
    rw [eEnv, eA, eP, ew, exe] at go
    exact ks_wpAt_mono go (fun fl s' hs => fin hs) fun e s' hs => hs
  rw [hbd]
  refine ks_wpAt_execs_cons ?_
  refine ks_wpAt_Expr_any ?_ I.quiet (hsw _)
  refine ks_wpAt_MethodCall (pl := pl) ?_ (hev _)
  -- super()
  obtain ⟨ar, har, ha0⟩ := SF.par
  obtain ⟨o1, o2, vs2, o3, file, tk2, hcode, hvs2, hfile⟩ := SF.code
  have hkind : X.env.scope.kind = .function := I.ok.kind
  have esc : X.env.scope = scope := by rw [eEnv]
  have nS : ∀ x, X.env.kindOf x = scope.names.lookup x := fun x => by
    show X.env.scope.names.lookup x = _
    rw [esc]
  have hkc : X.env.kindOf "__class__" = some .free := by rw [nS]; exact S.frk _ (by simp)
  rw [← eK] at hcell lk hcode
  rw [← eP] at hfile
  have htop : (X.prog.main.scope.names.lookup ("super" : Str)).isSome = false := by rw [eP]; exact SF.top
  refine ks_wpAt_super_base (env := X.env) (attr := "__init__") (by rw [nS]; exact hks) hkc (by decide) (f := f) (by rw [eEnv]) (I.kIn _ _ lk) rfl har (by rw [eEnv]) (I.kIn _ _ hcode) rfl hvs2 hfile htop ?_
  obtain ⟨mb, hmb1, hmb2⟩ := I.mod.blt
  refine PySem.W.ks_loadName_global hkind (by rw [nS]; exact hks) (Calls.loadGlobal_builtin (by rw [I.ok.glob]; exact I.mod.glob.keeps I.bk) (by rw [emg]; exact hsm) (by rw [I.ok.blt]; exact hmb1.keeps I.bk) ((hmb2 "super" (by decide)).trans (by first | boot_by_name | rfl | kernel_rfl)) ⟨rfl, ?_⟩)
  refine wpAny_loadName_free (c := cc) hkind hkc (by rw [eEnv]; rfl) ⟨_, I.kIn _ _ hcell, rfl⟩ ?_
  -- self
  obtain ⟨m, hm1, hm2⟩ := I.loc
  have hp0 : ps[0]? = some a0 := by rw [← hps, List.head?_eq_getElem?]
  have hpl : 0 < ps.length := (List.getElem?_eq_some_iff.mp hp0).1
  have hN0 : X.N[0]? = some a0 := by
    rw [eN]
    have q : (N.take (ps.length + 1))[0]? = (ps ++ [("__class__" : Str)])[0]? := congrArg (·[0]?) S.pre
    rw [List.getElem?_take_of_lt (by omega), List.getElem?_append_left hpl, hp0] at q
    exact q
  have hloc0 : X.env.scope.names.lookup a0 = some .local := by rw [esc]; exact S.par _ (List.mem_of_getElem? hp0)
  obtain ⟨u0, ru0, lk0⟩ := hm2 0 a0 (.ref a) hN0 (by simp [startF]) (.inl hloc0)
  obtain rfl : u0 = Value.ref a := ru0
  have hm0 : m a0 = some (.ref a) := by
    rcases lk0 with ⟨_, q⟩ | ⟨q, _⟩
    · exact q
    · have z : X.env.scope.names.lookup a0 = some .cell ∨ X.env.scope.names.lookup a0 = some .free := q
      rw [hloc0] at z
      rcases z with z | z <;> cases z
  refine wpAny_loadName_local hkind (by rw [ha0]; exact hloc0) hm1 (by rw [ha0]; exact hm0) ?_
  obtain ⟨cdD, hD⟩ := Option.isSome_iff_exists.mp SF.clsD
  rw [← eK] at hD
  obtain ⟨oD, hD1, hD2⟩ : ∃ oD, h₁.get? D = some oD ∧ oD.data = .cls cdD := by
    unfold PySem.W.clsIn at hD
    split at hD
    · rename_i ho
      cases hD
      exact ⟨_, I.kIn _ _ ho, rfl⟩
    · cases hD
  refine ks_wpAny_isType_cls hD1 hD2 ⟨rfl, ?_⟩
  obtain ⟨t1, hoe⟩ := exo_at I.hok hea
  rw [← eK] at SC
  refine ks_wpAny_call_super hD1 hD2 hoe rfl (fun c z => by cases z) (PySem.W.looks_mroIn I.kIn SC.mro) fun h2 hso2 k2 => ?_
  have I2 : Inv X [] (startF N (.ref a :: ws) [none]) H { s with heap := h2, toks := s.toks + (ps.zip us).length } := I.kept (t' := s.toks + (ps.zip us).length) fun b o e => k2 b o e
  refine sup_get (pl := pl) SC I2 hea hso2 fun u s3 I3 hu3 fp => ?_
  obtain ⟨f1, f2, f3, _⟩ := fp
  have I4 : Inv X [(u, kxs_mw "ValueError.__init__" a)] (startF N (.ref a :: ws) [none]) H s3 := I3.pins_of fun p hp => by
    have e := List.mem_singleton.mp hp
    subst e
    exact ⟨hu3, f1, f2, f3, fun v z => nomatch z⟩
  show wpAny _ _ (callWith p3 (.ref u) [] (backTo p3 (starEach [e1] X.env)) []) _ _ _
  have hpl2 : (backTo p3 (starEach ([] : List Expr) X.env)).any (·.1) = false := rfl
  refine PySem.W.kxs_callWith (i := "ValueError.__init__") (x := a) (by rw [hst]; rfl) ?_
  have z : ∀ {Qf : List Value → Shared → Prop}, (∀ v s4 x H4, Inv X [(u, kxs_mw "ValueError.__init__" a)] (startF N (.ref a :: ws) [none]) H4 s4 → L2.RelV x v → H4 a = some (exo a C none) → t { nx := fun _ H' => Q .non H', rt := Q } (startF N (.ref a :: ws) [none]) H4 → Qf [v] s4) →
      wpAny (model X.prog X.w) X.A (spliced (backTo p3 (starEach [e1] X.env))) Qf X.xe s3 := fun {Qf} h => args_cons (thn (he1.run _ s3 _ H _ I4 ht) fun v s4 ⟨x, H4, J4, r4, h4, h5⟩ => args_nil (h v s4 x H4 J4 r4 h4 h5)) (hst _)
  rw [hst] at z ⊢
  refine Calls.evalArgs_plain (z fun v s4 x H4 J4 r4 h4 h5 => ?_)
  have hu4 : s4.heap.get? u = some (kxs_mw "ValueError.__init__" a) := (J4.pin (u, kxs_mw "ValueError.__init__" a) (List.mem_append_right _ (List.mem_singleton.mpr rfl))).1
  refine ⟨hu4, ?_⟩
  show wpAny _ _ (call (.ref u) [v]) _ _ _
  refine mw_ok SC.oex J4 h4 hu4 (by show 1 ≤ sizeLine; decide) fun s5 J5 => ?_
  refine wpAt_of_wpAny ?_
  have J6 : Inv X [] (startF N (.ref a :: ws) [none]) H4 s5 := J5.pins_of fun p hp => nomatch hp
  exact hrest.run [] s5 _ H4 _ J6 h5
end
end EV0
/-! ## B2 -/
set_option Elab.async false
set_option linter.all false
set_option maxRecDepth 100000
set_option maxHeartbeats 2000000
/-! Part B2: several except clauses, each with or without a name; isinstance of a caught exception. -/
namespace EV0
open PySem PySem.Spec
open PyProof.Rows hiding St
open L2
abbrev HdL := List (Value × Option Nat × (Addr → Value → Option Addr → TS))
/-- the name's slot is bare behind the suite -/
def endsOf (D : Ends) : Option Nat → Ends
  | none => D
  | some i => { nx := fun σ' H' => D.nx (σ'.set i none) H', rt := D.rt, bk := fun σ' H' => D.bk (σ'.set i none) H', ct := fun σ' H' => D.ct (σ'.set i none) H' }
def setOf (σ : L2.St) (a : Addr) : Option Nat → L2.St
  | none => σ
  | some i => σ.set i (some (.ref a))
/-- what the clauses wish of an exception of the body -/
def wX (K : PySem.W.Frag) (Wout : WX) (D : Ends) : HdL → WX
  | [] => Wout
  | (c, i, ts) :: r => fun cls d σ H => ∃ b, PySem.W.exmOne K cls c = some b ∧ (b = true → ∀ a, H a = none → ts a cls d (endsOf D i) (setOf σ a i) H) ∧ (b = false → wX K Wout D r cls d σ H)
inductive HdsX (X : Cx) : List ExceptHandler → HdL → Prop
  | nil : HdsX X [] []
  | bare {x : Str} {c : Value} {ts : Addr → Value → Option Addr → TS} {b₀ : Stmt} {suite : List Stmt} {np pos' : Pos} {hds : List ExceptHandler} {l : HdL} (hc : Names X x c)
      (hsu : ∀ (a : Addr) (oe : Obj) (cls : Value) (d : Option Addr) (pn : List (Addr × Obj)), Zc cls d oe → (∃ vs, oe.data = .fields vs) → PSs (X.suite a ((a, oe) :: pn)) (b₀ :: suite) (ts a cls d)) (r : HdsX X hds l) :
      HdsX X (.ExceptHandler (some (.Name x np)) none (b₀ :: suite) pos' :: hds) ((c, none, ts) :: l)
  | named {x n : Str} {i : Nat} {c : Value} {ts : Addr → Value → Option Addr → TS} {b₀ : Stmt} {suite : List Stmt} {np pos' : Pos} {hds : List ExceptHandler} {l : HdL} (hc : Names X x c) (hi : X.N[i]? = some n) (hln : X.env.kindOf n = some .local)
      (hsu : ∀ (a : Addr) (oe : Obj) (cls : Value) (d : Option Addr) (pn : List (Addr × Obj)), Zc cls d oe → (∃ vs, oe.data = .fields vs) → PSs (X.suite a ((a, oe) :: pn)) (b₀ :: suite) (ts a cls d)) (r : HdsX X hds l) :
      HdsX X (.ExceptHandler (some (.Name x np)) (some n) (b₀ :: suite) pos' :: hds) ((c, some i, ts) :: l)
section
variable {X : Cx} {body : List Stmt} {h₀ : ExceptHandler} {hds : List ExceptHandler} {l : HdL} {pos : Pos} {tb : WX → TS} {Wout : WX}
theorem ps_tryX (hN : X.N.Nodup) (hs : X.stack = X.env :: X.outer) (hf : X.env.frame = some X.env.locals) (tk : Takes X Wout)
    (hb : ∀ (W : WX) (pn : List (Addr × Obj)) (xe : Value → Shared → Prop), Takes (X.tr pn xe) W → PassesOwn (model X.prog X.w) X.A X.env xe → PSs (X.tr pn xe) body (tb W))
    (hh : HdsX X (h₀ :: hds) l) : PS X (.Try body (h₀ :: hds) [] [] pos) (fun D σ H => tb (wX X.K Wout D l) D σ H) := by
  refine ⟨fun pins s σ H D I h => ?_⟩
  have ok := I.ok
  have hfr : X.A.frames = some (X.env :: X.outer) := by rw [ok.frames, hs]
  refine wpAny_Try_except ?_
  refine wpAny_mono ((hb (wX X.K Wout D l) (X.pn ++ pins) (fun e s₁ => wpAny (model X.prog X.w) X.A (noteFrame e X.env) (fun _ s₂ => wpAny (model X.prog X.w) X.A (setFlight e none) (fun _ s₃ =>
    wpAny (model X.prog X.w) X.A (handleBy e X.env (h₀ :: hds)) (SP X pins D) X.xe s₃) X.xe s₂) X.xe s₁) (fun u s' xx => ?_) PassesOwn.looking).run [] s σ H D (I.toTry _) h) (fun f s1 hsp => ?_) (fun e s1 he => he)
  · obtain ⟨a, B, sI, pins', σ', H', cls, d, rfl, J', nb, up, sky, na, os, ag, w⟩ := xx
    have J : Inv X pins σ' H' sI := J'.ofTry ok
    have sky' : Sky B (X.env :: X.outer) a (Zc cls d) X.env.locals s'.heap := by rw [← hs]; exact sky
    show wpAny (model X.prog X.w) X.A (noteFrame (.ref a) X.env) _ _ _
    refine Sky.land Zc.steady hfr hf sky' fun h3 fl3 up3 => ?_
    have J3 : Inv X pins σ' H' { s' with heap := h3 } := J.landed nb fl3.1 (up.trans up3) os ag
    obtain ⟨oe3, vs3, he3, hz3, hd3⟩ := fl3.there
    have nfr : a ∉ frs (X.env :: X.outer) := fun hm => by
      obtain ⟨_, o', e', hnf⟩ := fl3.2.2.1.mem hm
      rw [he3] at e'
      cases e'
      exact hnf _ hd3
    have nL : a ≠ X.env.locals := fun z => nfr (List.mem_filterMap.mpr ⟨X.env, List.mem_cons_self, by rw [hf, z]⟩)
    have nF : a ∉ X.fs := fun hm => by
      obtain ⟨e, he, q⟩ := List.mem_filterMap.mp hm
      exact nfr (List.mem_filterMap.mpr ⟨e, List.mem_cons_of_mem _ he, q⟩)
    have S3 := J3.suite he3 hd3 na nL nF
    have LT : PySem.W.Looks (model X.prog X.w) h3 (typeOf (.ref a)) cls := fun A Q E s k q => wpAny_typeOf_ref (k _ _ he3) (by rw [hz3.1]; exact q)
    have test : ∀ {x : Str} {np : Pos} {c : Value} {Q : Value → Shared → Prop} {E : Value → Shared → Prop}, Names X x c → Q c { s' with heap := h3 } → wpAny (model X.prog X.w) (X.A.mark (some (.ref a))) (eval (.Name x np) X.env) Q E { s' with heap := h3 } := fun {x np c Q E} hc q => by
      obtain ⟨hg, hdbg, hm | ⟨hm, hv, hnn⟩⟩ := hc
      · exact ld_glob (X := X.suite a ((a, oe3) :: (X.pn ++ pins))) S3 hg hm q hdbg
      · exact ld_blt (X := X.suite a ((a, oe3) :: (X.pn ++ pins))) S3 hg hm hv q hnn hdbg
    have go : ∀ {hds' : List ExceptHandler} {l' : HdL}, HdsX X hds' l' → wX X.K Wout D l' cls d σ' H' →
        wpAny (model X.prog X.w) X.A (handleBy (.ref a) X.env hds') (SP X pins D) X.xe { s' with heap := h3 } := by
      intro hds' l' hk
      induction hk with
      | nil =>
        intro w
        refine wpAny_handleBy_nil ?_
        obtain ⟨k1, k2, k3, oe, vs, T, oT, ts', he, hz, hd, h1, hr⟩ := id fl3
        unfold PySem.passOn
        refine wpAny_bind (wpAny_field he hd h1 ?_)
        rw [if_neg (show ¬ ((Value.ref T == Value.none) = true) from by simp)]
        have fin : wpAny (model X.prog X.w) X.A (setFlight (.ref a) X.env.frame) (fun _ s4 => wpAny (model X.prog X.w) X.A (throw (.ref a) : Sem Flow) (SP X pins D) X.xe s4) X.xe { s' with heap := h3 } := by
          rw [hf]
          refine HandSPX.setFlight_upZ fl3 fun h4 hh4 up4 => wpAny_throw (tk _ _ ?_)
          exact ⟨a, B, sI, pins, σ', H', cls, d, rfl, J, nb, (up.trans up3).trans up4, .inr (.inr (by rw [hs]; exact hh4)), na, os, ag, w⟩
        first
          | exact wpAny_bind (wpAny_pure (wpAny_bind fin))
          | exact wpAny_bind fin
      | @bare x c ts b₀ suite np pos' hds2 l2 hc hsu r ih =>
        intro w
        obtain ⟨b, hb1, hyes, hno⟩ := w
        refine wpAny_handleBy_cons (codeAny_handlers_test ?_) (by intro q; cases q)
        have LM := PySem.W.exm_one (M := model X.prog X.w) (J3.kIn) LT hb1
        refine test hc (LM.here ?_)
        cases b with
        | true =>
          refine codeAny_handlers_suite ?_
          refine HandSPX.lands_againZ fl3 fun h4 fl4 up4 => ?_
          have J4 : Inv X pins σ' H' { s' with heap := h4 } := J.landed nb fl4.1 ((up.trans up3).trans up4) os ag
          obtain ⟨oe4, vs4, he4, hz4, hd4⟩ := fl4.there
          have S4 := J4.suite he4 hd4 na nL nF
          refine wpAny_mono ((hsu a oe4 cls d (X.pn ++ pins) hz4 ⟨_, hd4⟩).run [] _ _ H' _ S4 (hyes rfl a na)) (fun f s6 hsp => ?_) (fun _ _ z => False.elim z)
          cases f with
          | next => obtain ⟨σ6, H6, S6, q6⟩ := hsp; exact ⟨_, _, S6.unsuite ok, q6⟩
          | brk => obtain ⟨σ6, H6, S6, q6⟩ := hsp; exact ⟨_, _, S6.unsuite ok, q6⟩
          | cont => obtain ⟨σ6, H6, S6, q6⟩ := hsp; exact ⟨_, _, S6.unsuite ok, q6⟩
          | ret u => obtain ⟨v6, σ6, H6, S6, r6, q6⟩ := hsp; exact ⟨_, _, _, S6.unsuite ok, r6, q6⟩
        | false =>
          show wpAny _ X.A (handleBy (.ref a) X.env hds2) _ _ _
          exact ih (hno rfl)
      | @named x n i c ts b₀ suite np pos' hds2 l2 hc hi hln hsu r ih =>
        intro w
        obtain ⟨b, hb1, hyes, hno⟩ := w
        have hloc : Loc X.env.scope n := .inl hln
        refine wpAny_handleBy_cons (codeAny_handlers_test ?_) (by intro q; cases q)
        have LM := PySem.W.exm_one (M := model X.prog X.w) (J3.kIn) LT hb1
        refine test hc (LM.here ?_)
        cases b with
        | true =>
          refine codeAny_handlers_suite_as ?_
          refine HandSPX.lands_againZ fl3 fun h4 fl4 up4 => ?_
          have J4 : Inv X pins σ' H' { s' with heap := h4 } := J.landed nb fl4.1 ((up.trans up3).trans up4) os ag
          obtain ⟨oe4, vs4, he4, hz4, hd4⟩ := fl4.there
          have S4 := J4.suite he4 hd4 na nL nF
          refine store_ok (X := X.suite a ((a, oe4) :: (X.pn ++ pins))) (v := .ref a) S4 hN hi hloc rfl (fun s5 S5 => ?_) (.inr hln)
          refine wpAny_mono ((hsu a oe4 cls d (X.pn ++ pins) hz4 ⟨_, hd4⟩).run [] s5 _ H' _ S5 (hyes rfl a na)) (fun f s6 hsp => ?_) (fun _ _ z => False.elim z)
          have end_ : ∀ {σ6 : L2.St} {H6 : Hp} {Q : Shared → Prop}, Inv (X.suite a ((a, oe4) :: (X.pn ++ pins))) [] σ6 H6 s6 → (∀ s7, Inv X pins (σ6.set i none) H6 s7 → Q s7) →
              wpAny (model X.prog X.w) X.A (do bindName X.env n .none; unbindBehindTheSuite X.env n pos') (fun _ s7 => Q s7) X.xe s6 := fun {σ6 H6 Q} S6 hq => gone_ok (S6.unsuite ok) hN hi hln hq
          cases f with
          | next => obtain ⟨σ6, H6, S6, q6⟩ := hsp; exact end_ S6 fun s7 J7 => ⟨_, _, J7, q6⟩
          | brk => obtain ⟨σ6, H6, S6, q6⟩ := hsp; exact end_ S6 fun s7 J7 => ⟨_, _, J7, q6⟩
          | cont => obtain ⟨σ6, H6, S6, q6⟩ := hsp; exact end_ S6 fun s7 J7 => ⟨_, _, J7, q6⟩
          | ret u => obtain ⟨v6, σ6, H6, S6, r6, q6⟩ := hsp; exact end_ S6 fun s7 J7 => ⟨_, _, _, J7, r6, q6⟩
        | false =>
          show wpAny _ X.A (handleBy (.ref a) X.env hds2) _ _ _
          exact ih (hno rfl)
    exact go hh w
  · cases f with
    | next => obtain ⟨σ', H', J', q⟩ := hsp; exact wpAny_execs_nil ⟨σ', H', J'.ofTry ok, q⟩
    | brk => obtain ⟨σ', H', J', q⟩ := hsp; exact ⟨σ', H', J'.ofTry ok, q⟩
    | cont => obtain ⟨σ', H', J', q⟩ := hsp; exact ⟨σ', H', J'.ofTry ok, q⟩
    | ret u => obtain ⟨v, σ', H', J', r, q⟩ := hsp; exact ⟨v, σ', H', J'.ofTry ok, r, q⟩
end
/-! ### isinstance(e, C), whether e has fields of its own or not -/
section
open PySem.W PySem.Calls
variable {prog : Program} {w : World} {A : Around} {E : Value → Shared → Prop} {s : Shared} {K : Frag} {x D : Addr} {ox : Obj} {od : Option Obj}
theorem findObj_data2 {C : Addr} {name : Str} {a g : Value} (hc : (clsIn K C).isSome = true) (ha : findIn K (.ref C) name = some (some a)) (hg : specialIn K a "__get__" = some (some g)) (ht : takesIn K a = some true) : findObj K C od name = some (.bind g a) := by
  obtain ⟨cd, hc⟩ := Option.isSome_iff_exists.mp hc
  unfold findObj
  rw [hc, Option.bind_some, ha, Option.bind_some]
  simp [hg, ht]
theorem kin_class2 {Q : Option Value → Shared → Prop} (T : ExcC K D) (X : K.In s.heap) (I : PySem.W.InstAt s.heap x ox D od) (h : Q (some (.ref D)) { s with toks := s.toks + 1 }) : wpAny (model prog w) A (getAttr? (.ref x) "__class__") Q E s := by
  have hf : findObj K D od "__class__" = some (.bind (.builtin "getset_descriptor.__get__") (.builtin "object.__class__")) := findObj_data2 (by obtain ⟨cd, hc, _⟩ := any_some T.hd; rw [hc]; rfl) T.ha T.hn T.ht
  obtain ⟨hp, g, d, t, os⟩ := s
  have L0 := I.type (M := model prog w)
  have L1 := looks_findIn (M := model prog w) X T.hg
  have L2 := looks_findIn (M := model prog w) X T.hk
  have L3 := looks_find (M := model prog w) X I hf
  have sub : Looks (model prog w) hp (isInstance (.ref x) (.type "BaseException")) true := L0.andThen (looks_subIn X T.hs)
  have hx0 : (false && onTheHeap (Value.builtin "BaseException.__getattribute__")) = false := rfl
  have hx2 : (Value.builtin "BaseException.__getattribute__" == Value.builtin "object.__getattribute__") = false := by decide +kernel
  have hx1 : (onTheHeap (Value.ref D) && Value.builtin "BaseException.__getattribute__" == Value.builtin "object.__getattribute__") = false := by rw [hx2]; rfl
  unfold getAttr? getAttrBy? getAttrBy
  refine wpAny_bind (wpAny_mkText (wpAny_bind (wpAny_attempt (wpAny_holding (wpAny_bind (L0.at (wpAny_bind (L1.at ?_))))))))
  show wpAny _ _ (if (onTheHeap (Value.ref D) && Value.builtin "BaseException.__getattribute__" == Value.builtin "object.__getattribute__") = true then _ else _) _ _ _
  rw [hx1, if_neg Bool.false_ne_true]
  unfold getAttrByItsOwn hookBefore
  refine wpAny_bind ?_
  rw [if_pos (show onTheHeap (Value.ref D) = true from rfl)]
  refine L2.at ?_
  refine wpAny_bind (wpAny_attempt (wpAny_holding ?_))
  unfold callGetattribute
  rw [hx0, if_neg Bool.false_ne_true]
  unfold boundAndCalled
  rw [PySem.F.excAttr_ValueError.ga.bind (.ref x)]
  refine wpAny_bind (wpAny_pure ?_)
  show wpAny _ _ (call (.builtin "BaseException.__getattribute__") [.ref x, .str "__class__" t]) _ _ _
  refine wpAny_call (codeAny_call_builtin PySem.F.excAttr_ValueError.ga.plain PySem.F.entry_bexc_ga ?_)
  refine @check_slot (model prog w) _ _ ⟨hp, g, d, t + 1, os⟩ "BaseException.__getattribute__" "BaseException" "__getattribute__" (.ref x) [.str "__class__" t] [] _ (by decide +kernel) (by decide +kernel) sub (PySem.F.args_bexc_ga (.ref x) (.str "__class__" t)) ?_
  unfold Builtin.«object.__getattribute__»
  refine wpAny_bind (wpAny_of_eq (a := ((Value.ref x : Value), [Value.str "__class__" t])) (by first | rfl | (simp only [slotArgs]; rfl)) ?_)
  refine wpAny_bind (wpAny_pure (wpAny_bind (L0.at (wpAny_bind (L3.at ?_)))))
  show wpAny _ _ (holding [Value.builtin "object.__class__"] (call (.builtin "getset_descriptor.__get__") [.builtin "object.__class__", .ref x, .ref D]) >>= ret) _ _ _
  refine wpAny_bind (wpAny_holding (wpAny_call (class_get (s := ⟨hp, g, d, t + 1, os⟩) (ox := ox) (od := od) X I T.hm ?_)))
  refine wpAny_pure ?_
  show wpAny _ _ (handedOut (.ref D)) _ _ _
  rw [handedOut_of (v := .ref D) rfl]
  first
    | exact wpAny_pure (wpAny_pure h)
    | exact wpAny_pure h
    | exact wpAny_pure (wpAny_bind (wpAny_pure (wpAny_pure h)))
theorem kit_exc2 (T : ExcC K D) : KitX K (.ref x) (.ref D) (fun h => PySem.W.InstAt h x ox D od) where
  ty := fun _ _ _ I => I.type
  it := fun _ _ X _ => by
    obtain ⟨cdD, hcD, _⟩ := any_some T.hd
    unfold clsIn at hcD
    split at hcD
    · rename_i c' d' cd' sl' ho
      intro A' Q' E' s' k q
      unfold isType loadHead
      exact wpAny_bind (wpAny_loadPart (k _ _ (X _ _ ho)) (wpAny_pure q))
    · cases hcD
  ne := fun h tp dd its n sl X htp => by
    obtain ⟨cdD, hcD, _⟩ := any_some T.hd
    refine Bool.eq_false_iff.mpr fun q => ?_
    have e : D = tp := Value.ref.inj (beq_iff_eq.mp q)
    subst e
    unfold clsIn at hcD
    split at hcD
    · rename_i c' d' cd' sl' ho
      have z := (X _ _ ho).symm.trans htp
      cases z
    · cases hcD
  ca := fun X I k => kin_class2 T X I k
end
/-- isinstance(e, c), e the exception that the suite holds; its dict, where it has one, is tracked -/
def rIsE2 (K : PySem.W.Frag) (a : Addr) (cls : Value) (d : Option Addr) : List V → Hp → VK → Prop := fun xs H Q => ∃ (D : Addr) (c : V) (cv : Value) (b : Bool), cls = .ref D ∧ ExcC K D ∧ xs = [.ref a, c] ∧ (∀ u, RelV c u → u = cv) ∧ PySem.W.kitOne K (.ref D) cv = some b ∧
  (d = none ∨ ∃ dd fs, d = some dd ∧ H dd = some (.xd fs)) ∧ Q (.bl b) H
theorem call_isE2 {X : Cx} {a : Addr} {cls : Value} {d : Option Addr} {oe : Obj} {pn : List (Addr × Obj)} (hz : Zc cls d oe) (hf : ∃ vs, oe.data = .fields vs) : CallR (X.suite a ((a, oe) :: pn)) (.builtin "isinstance") (rIsE2 X.K a cls d) := by
  intro pins s σ H xs us Q I r h
  obtain ⟨D, c, cv, b, rfl, T, rfl, hcv, e, hd, q⟩ := h
  cases r with
  | cons rx rr =>
    cases rr with
    | cons rt rr =>
      cases rr
      cases rx
      have ec := hcv _ rt
      subst ec
      obtain ⟨hget, _⟩ := I.pin (a, oe) (List.mem_append.mpr (.inl List.mem_cons_self))
      obtain ⟨vs, hv⟩ := hf
      have J : ∃ od, PySem.W.InstAt s.heap a oe D od := by
        rcases hd with hd | ⟨dd, fs, hd, hH⟩
        · refine ⟨none, hget, hz.1, by unfold PySem.W.notCls; rw [hv] <;> rfl, ?_⟩
          rw [hz.2, hd]
          exact trivial
        · obtain ⟨mA, hns, _⟩ := (show ObjOk X.prog X.w H s.heap dd (.xd fs) from I.hok dd _ hH)
          obtain ⟨od, ho, _⟩ := lookIn_ns hns
          refine ⟨some od, hget, hz.1, by unfold PySem.W.notCls; rw [hv] <;> rfl, ?_⟩
          rw [hz.2, hd]
          exact ho
      obtain ⟨od, J⟩ := J
      exact PySem.W.kia_one (kit_exc2 T) I.kIn J e (fun z => nomatch z) fun tk => ⟨.bl b, H, I.kept (t' := tk) fun _ _ z => z, rfl, q⟩
end EV0
/-! ## A12 -/
set_option Elab.async false
set_option linter.all false
set_option maxRecDepth 100000
set_option maxHeartbeats 2000000
/-! Part 12: exceptions. -/
namespace EV
open PySem PySem.Spec
open PyProof.Rows hiding St
open L2 EV0
/-! ### the __init__ of an own exception class -/
/-- C's __init__ called on a new instance: the fields fn are its arguments -/
def spXI (C : Addr) (fn : List Str) : Sp := fun vs H Q _ => ∃ a ws, vs = .ref a :: ws ∧ ws.length = fn.length ∧ H a = some (exo a C none) ∧
  ∀ d, H d = none → Q .non (upd (upd H d (exd d (fn.zip ws).reverse)) a (exo a C (some d)))
/-- self.f = p, one after the other -/
def tIni (K : PySem.W.Frag) : List (Str × Nat) → TS
  | [] => tNext
  | (f, j) :: r => tSeq (tOst K f (tVar 0) (tVar j)) (tIni K r)
def ixOf (N : List Str) (x : Str) : Option Nat := match N with
  | [] => none
  | y :: r => if y = x then some 0 else (ixOf r x).map (· + 1)
theorem ixOf_get : ∀ {N : List Str} {x : Str} {i : Nat}, ixOf N x = some i → N[i]? = some x
  | [], _, _, h => by cases h
  | y :: r, x, i, h => by
    unfold ixOf at h
    split at h
    · rename_i e
      cases h
      rw [e]
      rfl
    · obtain ⟨j, e, rfl⟩ := map_some h
      rw [List.getElem?_cons_succ]
      exact ixOf_get e
def visB (sc : Scope) (x : Str) : Bool := match sc.names.lookup x with
  | some .local => true
  | some .cell => true
  | some .free => true
  | _ => false
theorem visB_ok {sc : Scope} {x : Str} (h : visB sc x = true) : Vis sc x := by
  unfold visB at h
  split at h
  · rename_i e; exact .inl e
  · rename_i e; exact .inr (.inl e)
  · rename_i e; exact .inr (.inr e)
  · cases h
def noDbg (x : Str) : Bool := !(x == ("__debug__" : Str)) && !(x == ("__classdict__" : Str))
theorem noDbg_ok {x : Str} (h : noDbg x = true) : (x == ("__debug__" : Str)) = false ∧ (x == ("__classdict__" : Str)) = false := by
  unfold noDbg at h
  simpa using h
/-- the statements self.f = p -/
def iniB (N : List Str) (sc : Scope) : List Stmt → Option (List (Str × Nat))
  | [] => some []
  | .Assign [.Attribute (.Name s _) f _] (.Name p _) _ :: r => match ixOf N s, ixOf N p, iniB N sc r with
    | some 0, some j, some l => if visB sc s && visB sc p && noDbg s && noDbg p then some ((f, j) :: l) else none
    | _, _, _ => none
  | _ => none
theorem iniB_ok {X : Cx} : ∀ {r : List Stmt} {l : List (Str × Nat)}, iniB X.N X.env.scope r = some l → PSs X r (tIni X.K l)
  | [], l, h => by cases h; exact pss_nil
  | st :: r, l, h => by
    unfold iniB at h
    split at h
    · rename_i heq
      cases heq
    · rename_i s p1 f p2 p p3 p4 r' heq
      cases heq
      split at h
      · rename_i j l' e1 e2 e3
        split at h
        · rename_i b
          cases h
          simp only [Bool.and_eq_true] at b
          obtain ⟨⟨⟨v1, v2⟩, n1⟩, n2⟩ := b
          refine pss_cons (ps_ost (pe_var (ixOf_get e1) (visB_ok v1) (noDbg_ok n1).1 (noDbg_ok n1).2) (pe_var (ixOf_get e2) (visB_ok v2) (noDbg_ok n2).1 (noDbg_ok n2).2)) (iniB_ok e3)
        · cases h
      · cases h
    · cases h
section
variable {K : PySem.W.Frag}
theorem tIni_old {D : Ends} {C a d : Addr} {σ : L2.St} (T : OexC K C) (h0 : σ[0]? = some (some (.ref a))) (hne : d ≠ a) : ∀ (l : List (Str × Nat)) (ws : List V) (fs : List (Str × V)) (H : Hp), (∀ p ∈ l, PySem.W.findIn K (.ref C) p.1 = some none) → l.length = ws.length →
    (∀ (i : Nat) (p : Str × Nat), l[i]? = some p → σ[p.2]? = some ws[i]?) → fs.length + l.length ≤ 900 → H a = some (exo a C (some d)) → H d = some (exd d fs) → D.nx σ (upd H d (exd d (((l.map (·.1)).zip ws).reverse ++ fs))) → tIni K l D σ H
  | [], ws, fs, H, _, _, _, _, _, hd, q => by
    have e : upd H d (exd d (((([] : List (Str × Nat)).map (·.1)).zip ws).reverse ++ fs)) = H := by
      funext b
      by_cases z : b = d
      · rw [z, upd_same, hd]; rfl
      · rw [upd_ne z]
    rw [e] at q
    exact q
  | (f, j) :: r, [], fs, H, _, hl, _, _, _, _, _ => by simp at hl
  | (f, j) :: r, y :: ws, fs, H, hno, hl, hσ, hz, ha, hd, q => by
    have hj : σ[j]? = some (some y) := hσ 0 (f, j) rfl
    refine ⟨y, hj, .ref a, h0, a, C, rfl, T, hno (f, j) (by simp), .inr ⟨d, fs, ha, hd, by simp at hz; omega, ?_⟩⟩
    refine tIni_old T h0 hne r ws ((f, y) :: fs) _ (fun p hp => hno p (by simp [hp])) (by simpa using hl) (fun i p hp => by simpa using hσ (i + 1) p (by simpa using hp)) (by simp at hz ⊢; omega) ?_ upd_same ?_
    · rw [upd_ne (Ne.symm hne)]
      exact ha
    · rw [upd_upd]
      simpa using q
theorem tIni_new {D : Ends} {C a : Addr} {σ : L2.St} {H : Hp} (T : OexC K C) (h0 : σ[0]? = some (some (.ref a))) : ∀ (l : List (Str × Nat)) (ws : List V), l ≠ [] → (∀ p ∈ l, PySem.W.findIn K (.ref C) p.1 = some none) → l.length = ws.length →
    (∀ (i : Nat) (p : Str × Nat), l[i]? = some p → σ[p.2]? = some ws[i]?) → l.length ≤ 900 → H a = some (exo a C none) → (∀ d, H d = none → d ≠ a → D.nx σ (upd (upd H d (exd d ((l.map (·.1)).zip ws).reverse)) a (exo a C (some d)))) → tIni K l D σ H
  | [], _, ne, _, _, _, _, _, _ => absurd rfl ne
  | (f, j) :: r, [], _, _, hl, _, _, _, _ => by simp at hl
  | (f, j) :: r, y :: ws, _, hno, hl, hσ, hz, ha, q => by
    have hj : σ[j]? = some (some y) := hσ 0 (f, j) rfl
    refine ⟨y, hj, .ref a, h0, a, C, rfl, T, hno (f, j) (by simp), .inl ⟨ha, fun d hd hne => ?_⟩⟩
    refine tIni_old (d := d) T h0 hne r ws [(f, y)] _ (fun p hp => hno p (by simp [hp])) (by simpa using hl) (fun i p hp => by simpa using hσ (i + 1) p (by simpa using hp)) (by simp at hz ⊢; omega) upd_same (by rw [upd_ne hne]; exact upd_same) ?_
    have e : upd (upd (upd H d (exd d [(f, y)])) a (exo a C (some d))) d (exd d (((r.map (·.1)).zip ws).reverse ++ [(f, y)])) = upd (upd H d (exd d ((((f, j) :: r).map (·.1)).zip (y :: ws)).reverse)) a (exo a C (some d)) := by
      funext b
      by_cases z : b = d
      · subst z
        rw [upd_same, upd_ne hne, upd_same]
        simp
      · rw [upd_ne z]
        by_cases z2 : b = a
        · subst z2
          rw [upd_same, upd_same]
        · rw [upd_ne z2, upd_ne z2, upd_ne z, upd_ne z]
    rw [e]
    exact q d hd hne
end
section
variable {P : Program} {wd : World} {K : PySem.W.Frag} {mg : Str → Option Value} {base : Heap} {k : Nat} {f cda cc D C : Addr} {name qual : Str} {params : Arguments} {scope : Scope} {dV kV doc pm ct : Value} {an : Option Addr}
    {N ps fn : List Str} {a0 msg : Str} {rest : List Stmt} {j0 : Nat} {p0 p1 p2 p3 p4 pm' : Pos} {l : List (Str × Nat)}
/-- an exception's __init__: super().__init__('..'), then its fields -/
theorem fn_xini {CX : CXT} {pl : Sem Bool} {body : List Stmt} (SF : SupF K P mg f cda cc D (PySem.W.fnX name qual params body scope [("__class__", cc)] dV kV doc pm an (.ref cda) ct) a0) (hcd : PySem.W.codeIn K (.ref cda) qual = true) (S : NdefX.NScope N ps ["__class__"] scope) (hps : ps.head? = some a0)
    (hks : scope.names.lookup ("super" : Str) = some .globalImplicit) (hsm : mg "super" = none)
    (hb : ∀ us : List Value, us.length = ps.length → bindArgs (PySem.W.fnX name qual params body scope [("__class__", cc)] dV kV doc pm an (.ref cda) ct) ⟨us, []⟩ = pure (ps.zip us))
    (hbd : body = .Expr (.Call (.Attribute (.Call (.Name "super" p0) [] [] p1) "__init__" p2) [.Constant (.str msg) j0 pm'] [] p3) p4 :: rest)
    (hev : ∀ env, eval (.Call (.Attribute (.Call (.Name "super" p0) [] [] p1) "__init__" p2) [.Constant (.str msg) j0 pm'] [] p3) env = (do
      let ov ← attributeBase (.Call (.Name "super" p0) [] [] p1) "__init__" env (eval (.Call (.Name "super" p0) [] [] p1) env)
      standAt p2.atName
      let (f, first) ← holding [ov] (getMethod ov "__init__" pl)
      callWith p3 f first (backTo p3 (starEach [.Constant (.str msg) j0 pm'] env)) []))
    (hi : iniB N scope rest = some l) (hl : l.map (·.2) = (List.range l.length).map (· + 1)) (hfn : l.map (·.1) = fn) (hpl : ps.length = fn.length + 1) (hne : fn ≠ []) (h900 : fn.length ≤ 900) (SC : SupC K C D) (hno : ∀ g ∈ fn, PySem.W.findIn K (.ref C) g = some none) :
    FnR P wd K mg base CX (k + 1) f (spXI C fn) := by
  have ll : l.length = fn.length := by rw [← hfn, List.length_map]
  refine fnr_super SF hcd S hps hks hsm hb hbd (fun _ => rfl) (fun _ => rfl) hev fun A outer s H vs Q E hr h => ?_
  obtain ⟨a, ws, rfl, hw, hH, q⟩ := h
  refine ⟨a, C, ws, _, tIni K l, rfl, by rw [hpl, List.length_cons, hw], hH, SC, pe_str, iniB_ok (X := NdefX.ncx CX P wd K mg base N (supNF name qual params body scope cc cda) f A outer s H E) hi, hH, ?_⟩
  have sl : ∀ (i : Nat) (p : Str × Nat), l[i]? = some p → (NdefX.startF N (.ref a :: ws) [none])[p.2]? = some ws[i]? := fun i p hp => by
    have hil := (List.getElem?_eq_some_iff.mp hp).1
    have e : p.2 = i + 1 := by
      have z : (l.map (·.2))[i]? = some p.2 := by rw [List.getElem?_map, hp]; rfl
      rw [hl, List.getElem?_map, List.getElem?_range hil] at z
      exact (Option.some.inj z).symm
    rw [e]
    unfold NdefX.startF
    rw [List.getElem?_append_left (by simp; omega), List.getElem?_map, List.getElem?_cons_succ]
    have hwi : i < ws.length := by omega
    rw [List.getElem?_eq_getElem hwi]
    rfl
  refine tIni_new SC.oex (by simp [NdefX.startF]) l ws (fun z => hne (by rw [← hfn, z]; rfl)) (fun p hp => hno _ (by rw [← hfn]; exact List.mem_map_of_mem hp)) (by omega) sl (by omega) hH fun d hd _ => ?_
  rw [hfn]
  exact q d hd
end
/-! ### raise -/
structure XCls (P : Program) (wd : World) (K : PySem.W.Frag) (mg : Str → Option Value) (base : Heap) (k : Nat) (c : Str) (fn : List Str) : Prop where
  oex : OexC K (gaK K c)
  init : ∃ fI, PySem.W.findIn K (.ref (gaK K c)) "__init__" = some (some (.ref fI)) ∧ PySem.W.typeIn K (.ref fI) = some (.type "function") ∧ FnR P wd K mg base (L2.CX P wd) k fI (spXI (gaK K c) fn)
  nd : fn.Nodup
theorem XCls.le {P : Program} {wd : World} {K : PySem.W.Frag} {mg : Str → Option Value} {base : Heap} {j k : Nat} {c : Str} {fn : List Str} (h : XCls P wd K mg base j c fn) (l : j ≤ k) : XCls P wd K mg base k c fn := by
  obtain ⟨h1, ⟨fI, h2, h3, h4⟩, h5⟩ := h
  exact ⟨h1, ⟨fI, h2, h3, FnR.mono h4 l⟩, h5⟩
/-- C(e, ..): its fields are the arguments -/
def tMkX (C : Addr) (fn : List Str) (ta : TA) : L2.St → Hp → XK → Prop := fun σ H Q => ta σ H fun vs H1 => vs.length ≤ 1000 ∧ vs.length = fn.length ∧ ∀ d, H1 d = none → Q (.ref C) (some d) (upd H1 d (.xd (fn.zip vs).reverse))
theorem pmk_x {X : Cx} {x : Str} {c : Str} {fn : List Str} {k : Nat} {e : Expr} {es : List Expr} {ta : TA} {p pos : Pos} (T : XCls X.prog X.w X.K X.mg X.base k c fn) (hr : Room (k + 1) X.A) (hg : Gl X x) (hm : X.mg x = some (.ref (gaK X.K c))) (ha : PA X (e :: es) ta)
    (hdb : (x == ("__debug__" : Str)) = false) (he : starEach (e :: es) X.env = (false, eval e X.env) :: starEach es X.env) (hpl : (backTo pos (starEach es X.env)).any (·.1) = false) :
    PMk X (.Call (.Name x p) (e :: es) [] pos) (tMkX (gaK X.K c) fn ta) := by
  intro pins s σ H Q I h
  obtain ⟨fI, iC, tI, F1⟩ := T.init
  have Te := T.oex
  clear T
  obtain ⟨nm, q, N, bs, bm, sn, sub, ab, col, dd, k0, k1, k2, k3, k5, hC, hbm⟩ := Te.cls
  refine wpAny_Call_Name_kw (ld_glob I hg hm ?_ hdb)
  refine PySem.W.callWith_K (h₀ := X.base) I.ok.mod.kin Te.kC (thn (ha.run pos pins s σ H _ I h) fun us s1 ⟨vs, H1, I1, r1, hz, hlen, q1⟩ => ⟨I1.kIn, ?_⟩) he hpl
  show wpAny _ _ (call (.ref (gaK X.K c)) us) _ _ _
  generalize gaK X.K c = C at *
  obtain ⟨hp, g, dr, tk, os⟩ := s1
  have hsz : hp.objs.size ≤ hp.objs.size + 1 := Nat.le_succ _
  have hn : H1 (hp.objs.size + 1) = none := I1.hok.fresh hsz
  have kk : ∀ b o, hp.get? b = some o → ((hp.push (PySem.W.kdv_tup us)).push (PySem.HandSPX.excO C hp.objs.size)).get? b = some o := fun b o e => Heap.get?_push_of_some _ (Heap.get?_push_of_some _ e)
  have hget : ((hp.push (PySem.W.kdv_tup us)).push (PySem.HandSPX.excO C hp.objs.size)).get? (hp.objs.size + 1) = some (PySem.HandSPX.excO C hp.objs.size) := by heap_get
  have I2 : Inv X pins σ (upd H1 (hp.objs.size + 1) (exo (hp.objs.size + 1) C none)) ⟨(hp.push (PySem.W.kdv_tup us)).push (PySem.HandSPX.excO C hp.objs.size), g, dr, tk, os⟩ :=
    I1.laid (t' := tk) (a := hp.objs.size + 1) (o := exo (hp.objs.size + 1) C none) (h' := (hp.push (PySem.W.kdv_tup us)).push (PySem.HandSPX.excO C hp.objs.size)) kk hsz (exo_ok hget)
  have r2 : Vals (V.ref (hp.objs.size + 1) :: vs) (Value.ref (hp.objs.size + 1) :: us) := .cons rfl r1
  have hus : us.length ≤ sizeLine := by
    rw [← Paired.length r1, sizeLine_eq]
    omega
  have hq : spXI C fn (V.ref (hp.objs.size + 1) :: vs) (upd H1 (hp.objs.size + 1) (exo (hp.objs.size + 1) C none))
      (fun v H2 => v = .non ∧ ∃ (d : Addr) (fs : List (Str × V)), H2 (hp.objs.size + 1) = some (exo (hp.objs.size + 1) C (some d)) ∧ H2 d = some (exd d fs) ∧ H1 d = none ∧ Q (.ref C) (some d) (upd (del H2 (hp.objs.size + 1)) d (.xd fs))) (fun _ _ _ => False) := by
    refine ⟨hp.objs.size + 1, vs, rfl, hlen, upd_same, fun d hd => ?_⟩
    have hne : d ≠ hp.objs.size + 1 := fun z => by rw [z, upd_same] at hd; cases hd
    have hd1 : H1 d = none := by rw [upd_ne hne] at hd; exact hd
    refine ⟨rfl, d, _, upd_same, by rw [upd_ne hne]; exact upd_same, hd1, ?_⟩
    have e : upd (del (upd (upd (upd H1 (hp.objs.size + 1) (exo (hp.objs.size + 1) C none)) d (exd d (fn.zip vs).reverse)) (hp.objs.size + 1) (exo (hp.objs.size + 1) C (some d))) (hp.objs.size + 1)) d (.xd (fn.zip vs).reverse) = upd H1 d (.xd (fn.zip vs).reverse) := by
      funext b
      by_cases z : b = d
      · rw [z, upd_same, upd_same]
      · rw [upd_ne z, upd_ne z]
        by_cases z2 : b = hp.objs.size + 1
        · rw [z2, del_same, hn]
        · rw [del_ne z2, upd_ne z2, upd_ne z, upd_ne z2]
    rw [e]
    exact q1 d hd1
  refine wpAny_call (PySem.HandSPX.call_own F.excBase_ValueError (fun Y => PySem.HandSPX.refsVE_contains Y bm hbm) (I1.kIn _ _ hC) (PySem.W.looks_findIn I1.kIn iC) (fun self => PySem.W.bind_fn I1.kIn self tI) hus
    (codeAny_mono (F1 _ X.stack _ _ (Value.ref (hp.objs.size + 1) :: us) _ _ (fun _ _ _ => False) (hr.make C us []) (I2.env0.make C us []) r2 hq) fun r s' hq' => ?_))
  cases r with
  | error er =>
    obtain ⟨_, _, _, _, _, _, _, _, _, _, _, _, z⟩ := (show L2.CX X.prog X.w X.stack _ _ _ er s' from hq')
    exact z.elim
  | ok fl =>
    cases fl with
    | ret u =>
      obtain ⟨v, H2, os2, bare2, un2, hok2, rv, ev, d, fs, ea, ed, hd1, q2⟩ := hq'
      subst ev
      obtain ⟨h2, g2, d2, t2, os'⟩ := s'
      exact ⟨rv, mk_end (raises_own Te.exC Te.tyC) I1 hsz kk un2 hok2 os2 bare2 ea ed hd1 q2⟩
    | next => exact False.elim hq'
    | brk => exact False.elim hq'
    | cont => exact False.elim hq'
def sRaise (c : Str) (fn : List Str) (ms : List EM) : SM := fun env S => (aList ms env S).then env fun ds S1 => if ds.length = fn.length then .er ⟨c, fn.zip ds⟩ env S1 else .no
theorem zip_fld {K : PySem.W.Frag} {w : Wd} : ∀ {fn : List Str} {ds : List D} {vs : List V}, fn.Nodup → RepL K w ds vs → FldR K w (fn.zip ds) (fn.zip vs).reverse
  | [], ds, vs, _, r => fun f d h => by simp at h
  | g :: fn, [], vs, _, r => fun f d h => by simp at h
  | g :: fn, e :: ds, vs, nd, r => by
    obtain ⟨v, vs', rfl, r1, r2⟩ := r
    obtain ⟨n1, n2⟩ := List.nodup_cons.mp nd
    have ih := zip_fld n2 r2
    intro f d h
    rw [List.zip_cons_cons, List.lookup_cons] at h
    rw [List.zip_cons_cons, List.reverse_cons, List.lookup_append]
    by_cases z : f == g
    · have z' : f = g := by simpa using z
      subst z'
      simp only [beq_self_eq_true] at h
      cases h
      have no : ((fn.zip vs').reverse).lookup f = none := NdefXnone fun v' hv => n1 (List.of_mem_zip (List.mem_reverse.mp hv)).1
      refine ⟨v, ?_, r1⟩
      rw [no]
      simp
    · simp only [z] at h
      obtain ⟨u, q1, q2⟩ := ih f d h
      exact ⟨u, by rw [q1]; rfl, q2⟩
where
  NdefXnone {l : List (Str × V)} {x : Str} (h : ∀ v, (x, v) ∉ l) : l.lookup x = none := by
    cases e : l.lookup x with
    | none => rfl
    | some v => exact absurd (PySem.mem_of_lookup e) (h v)
theorem sim_raise {K : PySem.W.Frag} {W : WX} {x : Xc} {D : Ends} {σ : L2.St} {H : Hp} {c : Str} {fn : List Str} {ms : List EM} (nd : fn.Nodup) (hz : ms.length ≤ 1000) (h : rdS K W x (sRaise c fn ms) D σ H) : tMkX (gaK K c) fn (rdA K W x (aList ms)) σ H fun cls d H' => W cls d σ H' := by
  obtain ⟨w, env, S, rfl, s, er, h⟩ := h
  refine ⟨w, env, S, rfl, s, er, (post_len (PostS.then er h)).mono fun ds S1 w1 l1 s1 h1 vs rv => ?_⟩
  obtain ⟨hl, h1⟩ := h1
  by_cases e : ds.length = fn.length
  · rw [if_pos e] at h1
    refine ⟨by rw [← rv.length, hl]; exact hz, by rw [← rv.length]; exact e, fun d hd => ?_⟩
    have ow := Own.fresh (o := .xd (fn.zip vs).reverse) s1 hd
    have l2 := le_tp (o := .xd (fn.zip vs).reverse) s1 hd
    exact h1 (w1.tp d _) σ _ _ l2 (sr_tp s1 hd) ((er.le l1).le l2) ⟨rfl, .inr ⟨d, _, rfl, ow.at_, ow.nf, ow.ni, zip_fld nd (repL_le l2 _ _ rv)⟩⟩
  · rw [if_neg e] at h1
    exact h1.elim
end EV
/-! ## A13 -/
set_option Elab.async false
set_option linter.all false
set_option maxRecDepth 100000
set_option maxHeartbeats 2000000
/-! Part 13: try; e.f, isinstance(e, C) in an except suite; isinstance; tuple(..) whose object is known; d.get. -/
namespace EV
open PySem PySem.Spec
open PyProof.Rows hiding St
open L2 EV0
/-! ### try -/
structure HdM where
  c : Str
  i : Option Nat
  m : SM
def setF (env : Env) (x : Ex) : Option Nat → Env
  | none => env
  | some i => env.set i (some (.exn x.c x.fs))
def endF : Option Nat → SO → SO
  | _, .er _ _ _ => .no
  | none, o => o
  | some i, .nx env S => .nx (env.set i none) S
  | some i, .bk env S => .bk (env.set i none) S
  | some i, .ct env S => .ct (env.set i none) S
  | some _, .rt d S => .rt d S
  | some _, .no => .no
/-- ex c c': is the class c one of c' -/
def handF (ex : Str → Str → Option Bool) : List HdM → Ex → Env → Store → SO
  | [], x, env, S => .er x env S
  | h :: r, x, env, S => match ex x.c h.c with
    | some true => endF h.i (h.m (setF env x h.i) S)
    | some false => handF ex r x env S
    | none => .no
def sTry (ex : Str → Str → Option Bool) (body : SM) (hds : List HdM) : SM := fun env S => match body env S with
  | .er x env' S' => handF ex hds x env' S'
  | r => r
def xcOf : Option Nat → Addr → Value → Option Addr → Xc
  | none, _, _, _ => none
  | some i, a, cls, d => some (i, a, cls, d)
def hdL (K : PySem.W.Frag) (hds : List HdM) : HdL := hds.map fun h => (.ref (gaK K h.c), h.i, fun a cls d => rdS K W0 (xcOf h.i a cls d) h.m)
section
variable {K : PySem.W.Frag} {Wout : WX} {w : Wd} {D : Ends} {σ : L2.St} {H : Hp}
theorem EnvR.exn {env : Env} {y : Ex} {a : Addr} {cls : Value} {d : Option Addr} (er : EnvR K none w env σ) (e : ExR K w y cls d) (i : Option Nat) : EnvR K (xcOf i a cls d) w (setF env y i) (setOf σ a i) := by
  cases i with
  | none => exact er
  | some i =>
    refine ⟨by simp [setF, setOf, er.len], fun j dd h => ?_⟩
    have h : (env.set i (some (.exn y.c y.fs)))[j]? = some (some dd) := h
    show ∃ v, (σ.set i (some (.ref a)))[j]? = some (some v) ∧ _
    by_cases z : i = j
    · subst z
      by_cases hl : i < env.length
      · rw [List.getElem?_set_self hl] at h
        cases h
        refine ⟨.ref a, by rw [List.getElem?_set_self (by rw [← er.len]; exact hl)], .inr ⟨a, cls, d, y.c, y.fs, rfl, rfl, rfl, e⟩⟩
      · rw [List.getElem?_eq_none (by simpa using hl)] at h
        cases h
    · rw [List.getElem?_set_ne z] at h
      obtain ⟨v, k1, k2⟩ := er.at_ j dd h
      refine ⟨v, by rw [List.getElem?_set_ne z]; exact k1, ?_⟩
      rcases k2 with k2 | ⟨_, _, _, _, _, k2, _⟩
      · exact .inl k2
      · cases k2
theorem EnvR.unexn {env : Env} {i : Nat} {a : Addr} {cls : Value} {d : Option Addr} (er : EnvR K (some (i, a, cls, d)) w env σ) : EnvR K none w (env.set i none) (σ.set i none) := by
  refine ⟨by simp [er.len], fun j dd h => ?_⟩
  by_cases z : i = j
  · subst z
    by_cases hl : i < env.length
    · rw [List.getElem?_set_self hl] at h; cases h
    · rw [List.getElem?_eq_none (by simpa using hl)] at h; cases h
  · rw [List.getElem?_set_ne z] at h
    obtain ⟨v, k1, k2⟩ := er.at_ j dd h
    refine ⟨v, by rw [List.getElem?_set_ne z]; exact k1, ?_⟩
    rcases k2 with k2 | ⟨_, _, _, _, _, k2, _⟩
    · exact .inl k2
    · cases k2
      exact absurd rfl z
theorem endF_post {i : Option Nat} {a : Addr} {cls : Value} {d : Option Addr} {o : SO} (h : PostS K Wout none w (endF i o) D) : PostS K W0 (xcOf i a cls d) w o (endsOf D i) := by
  cases i with
  | none => cases o <;> first | exact h | exact h.elim
  | some i =>
    cases o with
    | nx env S => exact fun w' σ' l s er => h w' _ l s er.unexn
    | bk env S => exact fun w' σ' l s er => h w' _ l s er.unexn
    | ct env S => exact fun w' σ' l s er => h w' _ l s er.unexn
    | rt d S => exact h
    | er y env S => exact h.elim
    | no => exact h
theorem hand_post {ex : Str → Str → Option Bool} (hex : ∀ c c' b, ex c c' = some b → PySem.W.exmOne K (.ref (gaK K c)) (.ref (gaK K c')) = some b) {y : Ex} {env : Env} {S : Store} {cls : Value} {d : Option Addr} (s : SR K w S) (er : EnvR K none w env σ) (e : ExR K w y cls d) :
    ∀ hds : List HdM, PostS K Wout none w (handF ex hds y env S) D → wX K Wout D (hdL K hds) cls d σ w.H
  | [], h => h w σ cls d (Le.refl _) s er e
  | hd :: r, h => by
    simp only [handF] at h
    have ec := e.1
    cases q : ex y.c hd.c with
    | none => simp only [q] at h; exact h.elim
    | some b =>
      simp only [q] at h
      refine ⟨b, by rw [ec]; exact hex _ _ _ q, fun eb a ha => ?_, fun eb => ?_⟩
      · subst eb
        simp only at h
        exact ⟨w, _, S, rfl, s, er.exn e hd.i, endF_post h⟩
      · subst eb
        exact hand_post hex s er e r h
theorem simS_try {ex : Str → Str → Option Bool} (hex : ∀ c c' b, ex c c' = some b → PySem.W.exmOne K (.ref (gaK K c)) (.ref (gaK K c')) = some b) {mb : SM} {hds : List HdM} (h : rdS K Wout none (sTry ex mb hds) D σ H) : rdS K (wX K Wout D (hdL K hds)) none mb D σ H := by
  obtain ⟨w, env, S, rfl, s, er, h⟩ := h
  refine ⟨w, env, S, rfl, s, er, ?_⟩
  unfold sTry at h
  cases e : mb env S with
  | er y env' S' =>
    rw [e] at h
    exact fun w' σ' cls d l s' er' ex' => hand_post hex s' er' ex' hds (PostS.le l h)
  | nx env' S' => rw [e] at h; exact h
  | rt d S' => rw [e] at h; exact h
  | bk env' S' => rw [e] at h; exact h
  | ct env' S' => rw [e] at h; exact h
  | no => rw [e] at h; exact h
end
/-! ### e.f, isinstance(e, C) -/
/-- ok c f: the field f of an exception of the class c may be read -/
def eXf (ok : Str → Str → Bool) (i : Nat) (f : Str) : EM := fun env S => match env[i]? with
  | some (some (.exn c fs)) => match fs.lookup f with
    | some d => if ok c f then .ok d S else .no
    | none => .no
  | _ => .no
def tXfA (K : PySem.W.Frag) (a : Addr) (cls : Value) (d : Option Addr) (f : Str) (te : TE) : TE := fun σ H Q => ∃ C, XfC K C ∧ PySem.W.findIn K (.ref C) f = some none ∧ tXf a cls d C f te σ H Q
theorem pe_xfA {X : Cx} {a : Addr} {oe : Obj} {cls : Value} {d : Option Addr} {pn : List (Addr × Obj)} {e : Expr} {te : TE} {pos : Pos} {n : Str} (hz : Zc cls d oe) (hf : ∃ vs, oe.data = .fields vs) (he : PE (X.suite a ((a, oe) :: pn)) e te) (hb : attributeBase e n X.env (eval e X.env) = eval e X.env) :
    PE (X.suite a ((a, oe) :: pn)) (.Attribute e n pos) (tXfA X.K a cls d n te) := ⟨fun pins s σ H Q I h => by
  obtain ⟨C, T, hno, h⟩ := h
  exact (pe_xf T hno hz hf he hb).run pins s σ H Q I h⟩
section
variable {K : PySem.W.Frag} {W : WX} {σ : L2.St} {H : Hp} {Q : VK}
theorem sim_xf {ok : Str → Str → Bool} (hok : ∀ c f, ok c f = true → XfC K (gaK K c) ∧ PySem.W.findIn K (.ref (gaK K c)) f = some none) {i : Nat} {f : Str} {a : Addr} {cls : Value} {d : Option Addr} (h : rd K W (some (i, a, cls, d)) (eXf ok i f) σ H Q) : tXfA K a cls d f (tVar i) σ H Q := by
  obtain ⟨w, env, S, rfl, s, er, h⟩ := h
  unfold eXf at h
  cases e : env[i]? with
  | none => rw [e] at h; exact h.elim
  | some o =>
    cases o with
    | none => rw [e] at h; exact h.elim
    | some dd =>
      rw [e] at h
      cases dd with
      | exn c fs =>
        simp only at h
        cases e2 : fs.lookup f with
        | none => simp only [e2] at h; exact h.elim
        | some d2 =>
          simp only [e2] at h
          by_cases b : ok c f = true
          · rw [if_pos b] at h
            obtain ⟨T, hno⟩ := hok c f b
            obtain ⟨v, k1, k2⟩ := er.at_ i _ e
            rcases k2 with k2 | ⟨a', cls', d', c', fs', k2, k3, k4, k5⟩
            · exact k2.elim
            · cases k2
              cases k3
              subst k4
              obtain ⟨ec, k5⟩ := k5
              rcases k5 with ⟨k5, _⟩ | ⟨dx, vs, k6, k7, _, _, k8⟩
              · have k5 : fs = [] := k5
                rw [k5] at e2
                cases e2
              · obtain ⟨u, q1, q2⟩ := k8 f d2 e2
                exact ⟨_, T, hno, _, k1, rfl, ec, dx, vs, u, k6, k7, q1, post_at s h q2⟩
          · rw [if_neg b] at h
            exact h.elim
      | _ => exact h.elim
/-- kt c c': an exception of the class c is one of c' -/
def eIsX (kt : Str → Str → Option Bool) (i : Nat) (c' : Str) : EM := fun env S => match env[i]? with
  | some (some (.exn c _)) => match kt c c' with
    | some b => .ok (.bl b) S
    | none => .no
  | _ => .no
theorem sim_isX {kt : Str → Str → Option Bool} (hkt : ∀ c c' b, kt c c' = some b → ExcC K (gaK K c) ∧ PySem.W.kitOne K (.ref (gaK K c)) (.ref (gaK K c')) = some b) {i : Nat} {c' : Str} {a : Addr} {cls : Value} {d : Option Addr} (h : rd K W (some (i, a, cls, d)) (eIsX kt i c') σ H Q) :
    tCB (rIsE2 K a cls d) (tCons (tVar i) (tCons (tC (.ref (gaK K c'))) tNil)) σ H Q := by
  obtain ⟨w, env, S, rfl, s, er, h⟩ := h
  unfold eIsX at h
  cases e : env[i]? with
  | none => rw [e] at h; exact h.elim
  | some o =>
    cases o with
    | none => rw [e] at h; exact h.elim
    | some dd =>
      rw [e] at h
      cases dd with
      | exn c fs =>
        simp only at h
        cases e2 : kt c c' with
        | none => simp only [e2] at h; exact h.elim
        | some b =>
          simp only [e2] at h
          obtain ⟨T, hk⟩ := hkt c c' b e2
          obtain ⟨v, k1, k2⟩ := er.at_ i _ e
          rcases k2 with k2 | ⟨a', cls', d', c1, fs', k2, k3, k4, k5⟩
          · exact k2.elim
          · cases k2
            cases k3
            subst k4
            obtain ⟨ec, k5⟩ := k5
            refine ⟨_, k1, gaK K c, _, _, b, ec, T, rfl, fun u r => r, hk, ?_, post_at s h rfl⟩
            rcases k5 with ⟨_, k5⟩ | ⟨dx, vs, k6, k7, _⟩
            · exact .inl k5
            · exact .inr ⟨dx, vs, k6, k7⟩
      | _ => exact h.elim
end
/-! ### isinstance of plain data -/
def tyN (S : Store) : D → Option String
  | .non => some "NoneType"
  | .bl _ => some "bool"
  | .int _ => some "int"
  | .str _ => some "str"
  | .tup _ => some "tuple"
  | .ktup _ => some "tuple"
  | .lst _ => some "list"
  | .scr _ => some "list"
  | .dct _ _ => some "dict"
  | .loc n => match S[n]? with
    | some (some (.lst _)) => some "list"
    | some (some (.dct _ _)) => some "dict"
    | _ => none
  | _ => none
def isiTab : List (String × String × Bool) := (["NoneType", "bool", "int", "str", "tuple", "list", "dict"].map fun a => ["bool", "int", "str", "tuple", "list", "dict"].map fun b => (a, b, a == b || (a == "bool" && b == "int"))).flatten
def isiB (a b : String) : Option Bool := if (["NoneType", "bool", "int", "str", "tuple", "list", "dict"].contains a && ["bool", "int", "str", "tuple", "list", "dict"].contains b) then some (a == b || (a == "bool" && b == "int")) else none
theorem isi_all : ∀ a ∈ ["NoneType", "bool", "int", "str", "tuple", "list", "dict"], ∀ b ∈ ["bool", "int", "str", "tuple", "list", "dict"], kitB a b = some (a == b || (a == "bool" && b == "int")) := by decide +kernel
theorem isiB_ok {K : PySem.W.Frag} {a b : String} {r : Bool} (h : isiB a b = some r) : PySem.W.kitOne K (.type a) (.type b) = some r := by
  unfold isiB at h
  split at h
  · rename_i q
    simp only [Bool.and_eq_true, List.contains_iff_mem] at q
    rw [← h]
    exact kit_ty (isi_all a q.1 b q.2)
  · cases h
section
variable {K : PySem.W.Frag} {w : Wd} {S : Store}
theorem kt_ty {a : Addr} {vs : List V} (h : KT K w a vs) : TyX K w.H (.ref a) (.type "tuple") := by
  rcases h with ⟨o, h, _⟩ | ⟨o, its, n, h1, h2, _⟩
  · exact .fTuple h
  · exact .kTuple h1 h2
theorem rdL_ty {a : Addr} {vs : List V} (h : RdL K w a vs) : TyX K w.H (.ref a) (.type "list") := by
  rcases h with ⟨o, h⟩ | ⟨o, its, n, h1, h2, _⟩
  · exact .base (.frz h)
  · exact .kList h1 h2
theorem tyN_of (s : SR K w S) {d : D} {v : V} {a : String} (h : tyN S d = some a) (r : Rep K w d v) : TyX K w.H v (.type a) := by
  cases d with
  | non => cases h; cases (show v = _ from r); exact .base .non
  | bl b => cases h; cases (show v = _ from r); exact .base (.bl b)
  | int i => cases h; cases (show v = _ from r); exact .base (.int i)
  | str x => cases h; cases (show v = _ from r); exact .base (.str x)
  | tup ds => cases h; obtain ⟨p, vs, rfl, h2, _⟩ := r; exact .base (.tup h2)
  | ktup ds => cases h; obtain ⟨p, vs, rfl, h2, _⟩ := r; exact kt_ty h2
  | lst ds => cases h; obtain ⟨p, vs, rfl, _, h2, _⟩ := r; exact .base (.lst h2)
  | scr ds => cases h; obtain ⟨p, vs, rfl, h2, _⟩ := r; exact rdL_ty h2
  | dct t kvs =>
    cases h
    cases t with
    | false => obtain ⟨p, ks, rfl, _, h2, _⟩ := r; exact .base (.dK h2)
    | true => obtain ⟨p, ks, rfl, _, h2, _⟩ := r; exact .base (.dT h2)
  | loc n =>
    obtain ⟨p, rfl, ha⟩ := r
    simp only [tyN] at h
    cases e : S[n]? with
    | none => rw [e] at h; cases h
    | some o =>
      rw [e] at h
      cases o with
      | none => cases h
      | some c =>
        obtain ⟨nf, cr⟩ := cell_at s e ha
        cases c with
        | lst ds => cases h; obtain ⟨vs, h2, _⟩ := cr; exact .base (.lst h2)
        | dct t kvs =>
          cases h
          cases t with
          | false => obtain ⟨ks, h2, _⟩ := cr; exact .base (.dK h2)
          | true => obtain ⟨ks, h2, _⟩ := cr; exact .base (.dT h2)
        | ins _ _ => cases h
  | _ => cases h
end
def isTyD : D → Bool
  | .ty _ => true
  | _ => false
def tysN (S : Store) (a : String) : List D → Option Bool
  | [] => some false
  | .ty b :: r => match isiB a b with
    | some true => if r.all isTyD then some true else none
    | some false => tysN S a r
    | none => none
  | _ => none
def fIsi : FN := f2 fun d c S => match tyN S d with
  | some a => match c with
    | .ty b => match isiB a b with
      | some k => .ok (.bl k) S
      | none => .no
    | .tup cs => match tysN S a cs with
      | some k => .ok (.bl k) S
      | none => .no
    | _ => .no
  | none => .no
def rIsiA (K : PySem.W.Frag) : List V → Hp → VK → Prop := fun xs H Q => rIsi K xs H Q ∨ rIsiT K xs H Q
theorem call_isiA {X : Cx} : CallR X (.builtin "isinstance") (rIsiA X.K) := CallR.or call_isi call_isiT
theorem tys_all {K : PySem.W.Frag} {w : Wd} : ∀ {cs : List D} {vs : List V}, cs.all isTyD = true → RepL K w cs vs → ∃ us, Paired ClsV vs us
  | [], vs, _, r => by cases (show vs = _ from r); exact ⟨[], .nil⟩
  | d :: cs, vs, h, r => by
    obtain ⟨v, vs', rfl, r1, r2⟩ := r
    rw [List.all_cons, Bool.and_eq_true] at h
    obtain ⟨us, p⟩ := tys_all h.2 r2
    cases d with
    | ty b => cases (show v = _ from r1); exact ⟨.type b :: us, .cons (.ty b) p⟩
    | _ => cases h.1
theorem tysN_of {K : PySem.W.Frag} {w : Wd} {S : Store} {a : String} : ∀ {cs : List D} {vs : List V} {k : Bool}, tysN S a cs = some k → RepL K w cs vs → ∃ us, Paired ClsV vs us ∧ PySem.W.kitAny K (.type a) us = some k
  | [], vs, k, h, r => by cases h; cases (show vs = _ from r); exact ⟨[], .nil, kitAny_nil⟩
  | d :: cs, vs, k, h, r => by
    obtain ⟨v, vs', rfl, r1, r2⟩ := r
    cases d with
    | ty b =>
      cases (show v = _ from r1)
      simp only [tysN] at h
      cases e : isiB a b with
      | none => simp only [e] at h; cases h
      | some q =>
        simp only [e] at h
        cases q with
        | true =>
          simp only at h
          split at h
          · rename_i al
            cases h
            obtain ⟨us, p⟩ := tys_all al r2
            refine ⟨.type b :: us, .cons (.ty b) p, ?_⟩
            unfold PySem.W.kitAny
            rw [isiB_ok e]
          · cases h
        | false =>
          obtain ⟨us, p, q⟩ := tysN_of h r2
          exact ⟨.type b :: us, .cons (.ty b) p, kitAny_cons (isiB_ok e) (fun _ => q) (fun z => nomatch z)⟩
    | _ => cases h
theorem opc_isi {K : PySem.W.Frag} : OpC K (rIsiA K) fIsi := opc_2 fun W σ w S d e v u Q s r q h => by
  cases e1 : tyN S d with
  | none => simp only [e1] at h; exact h.elim
  | some a =>
    simp only [e1] at h
    have T := tyN_of s e1 r
    cases e with
    | ty b =>
      cases (show u = _ from q)
      simp only at h
      cases e2 : isiB a b with
      | none => simp only [e2] at h; exact h.elim
      | some k =>
        simp only [e2] at h
        exact .inl ⟨v, _, _, _, k, rfl, .ty b, T, isiB_ok e2, post_at s h rfl⟩
    | tup cs =>
      simp only at h
      cases e2 : tysN S a cs with
      | none => simp only [e2] at h; exact h.elim
      | some k =>
        simp only [e2] at h
        obtain ⟨p, vs, rfl, h2, _, h3⟩ := q
        obtain ⟨us, k1, k2⟩ := tysN_of e2 h3
        exact .inr ⟨v, p, vs, _, us, k, rfl, h2, k1, T, k2, post_at s h rfl⟩
    | _ => exact h.elim
/-! ### tuple(x) whose object is known -/
def fTupleK : FN := f1 fun d S => match asT d with
  | some ds => .ok d S
  | none => match asL S d with
    | some ds => .ok (.ktup ds) S
    | none => .no
def rTupK (K : PySem.W.Frag) : List V → Hp → VK → Prop := fun xs H Q => ∃ p ys, xs = [.ref p] ∧ ((SqL K H p ys ∧ ∀ l o, H l = none → o.dict = none → Q (.ref l) (upd H l (.frz o (.tup ys)))) ∨ (SqT K H p ys ∧ Q (.ref p) H))
theorem call_tupK {X : Cx} : CallR X (.type "tuple") (rTupK X.K) := by
  intro pins s σ H xs us Q I r h
  obtain ⟨p, ys, rfl, h⟩ := h
  obtain rfl := Vals.ref1 r
  rcases h with ⟨hs, q⟩ | ⟨hs, q⟩
  · obtain ⟨its, rv, pl, hz⟩ := I.list hs
    refine call_tuple_list pl.isList (fun h' hk => ?_) (by rw [List.size_toArray, ← rv.length]; exact hz)
    have I1 : Inv X pins σ H { s with heap := h' } := I.kept (t' := s.toks) hk
    have I2 : Inv X pins σ (upd H h'.objs.size (.frz { cls := .type "tuple", data := .seq its.toArray } (.tup ys))) { s with heap := h'.push { cls := .type "tuple", data := .seq its.toArray } } :=
      I1.laid (t' := s.toks) (fun b o e => Heap.get?_push_of_some _ e) (Nat.le_refl _) (show ObjOk X.prog X.w _ _ _ (.frz _ (.tup ys)) from ⟨Heap.get?_push_size _ rfl, hz, its, rv, IsTup.new _ _⟩)
    exact ⟨.ref h'.objs.size, _, I2, rfl, q _ _ (I1.hok.fresh (Nat.le_refl _)) rfl⟩
  · obtain ⟨its, rv, pl, hz⟩ := I.tuple hs
    exact call_tuple_tup pl ⟨.ref p, H, I, rfl, q⟩
theorem opc_tupK {K : PySem.W.Frag} : OpC K (rTupK K) fTupleK := opc_1 fun W σ w S d v Q s r h => by
  cases e : asT d with
  | some ds =>
    simp only [e] at h
    obtain ⟨p, vs, rfl, h2, h3⟩ := asT_of e r
    exact ⟨p, vs, rfl, .inr ⟨h2, post_at s h r⟩⟩
  | none =>
    simp only [e] at h
    cases e2 : asL S d with
    | none => simp only [e2] at h; exact h.elim
    | some ds =>
      simp only [e2] at h
      obtain ⟨p, vs, rfl, h2, h3, hz⟩ := asL_ofz s e2 r
      exact ⟨p, vs, rfl, .inl ⟨h2, fun l o hl ho => post_tp s hl h ⟨l, vs, rfl, .inl ⟨o, upd_same, ho⟩, hz, repL_le (le_tp s hl) _ _ h3⟩⟩⟩
/-! ### d.get -/
def eGet1 (mo mi : EM) : EM := fun env S => (mo env S).bind fun d S1 => match asD S1 d with
  | some _ => (mi env S1).bind fun i S2 => match asD S2 d with
    | some (t, kvs) => match keyOf t i with
      | some k => .ok ((dFind kvs k).getD .non) S2
      | none => .no
    | none => .no
  | none => .no
def eGet2 (mo mi mx : EM) : EM := fun env S => (mo env S).bind fun d S1 => match asD S1 d with
  | some _ => (mi env S1).bind fun i S2 => (mx env S2).bind fun y S3 => match asD S3 d with
    | some (t, kvs) => match keyOf t i with
      | some k => .ok ((dFind kvs k).getD y) S3
      | none => .no
    | none => .no
  | none => .no
section
variable {K : PySem.W.Frag} {W : WX} {x : Xc} {σ : L2.St} {H : Hp} {Q : VK}
theorem isD_of {w : Wd} {S : Store} {d : D} {p : Bool × List (DKey × D)} {v : V} (s : SR K w S) (h : asD S d = some p) (r : Rep K w d v) : ∃ a, v = .ref a ∧ IsD w.H a := by
  obtain ⟨t, kvs⟩ := p
  obtain ⟨a, rfl, hd⟩ := asD_of s h r
  cases t with
  | false => obtain ⟨ks, q, _⟩ := hd; exact ⟨a, rfl, .inl ⟨ks, .inl q⟩⟩
  | true => obtain ⟨ks, q, _⟩ := hd; exact ⟨a, rfl, .inr ⟨ks, .inl q⟩⟩
theorem sim_get1 {mo mi : EM} (h : rd K W x (eGet1 mo mi) σ H Q) : tDGet1 (rd K W x mo) (rd K W x mi) σ H Q := by
  obtain ⟨w, env, S, rfl, s, er, h⟩ := h
  refine ⟨w, env, S, rfl, s, er, h.bind.mono fun d S1 w1 l1 s1 h1 v rv => ?_⟩
  cases e : asD S1 d with
  | none => simp only [e] at h1; exact h1.elim
  | some p =>
    simp only [e] at h1
    obtain ⟨a, rfl, hi⟩ := isD_of s1 e rv
    refine ⟨a, rfl, hi, w1, env, S1, rfl, s1, er.le l1, h1.bind.mono fun i S2 w2 l2 s2 h2 u ru => ?_⟩
    cases e2 : asD S2 d with
    | none => simp only [e2] at h2; exact h2.elim
    | some p2 =>
      obtain ⟨t, kvs⟩ := p2
      simp only [e2] at h2
      cases e3 : keyOf t i with
      | none => simp only [e3] at h2; exact h2.elim
      | some k =>
        simp only [e3] at h2
        obtain ⟨a', ea, q1, q2⟩ := dget_of s2 e2 e3 (rep_le l2 _ _ rv) ru
        cases ea
        cases e4 : dFind kvs k with
        | none => rw [e4] at h2; exact ⟨none, q2 e4, post_at s2 h2 rfl⟩
        | some d' =>
          rw [e4] at h2
          obtain ⟨v', g, rv'⟩ := q1 d' e4
          exact ⟨some v', g, post_at s2 h2 rv'⟩
theorem sim_get2 {mo mi mx : EM} (h : rd K W x (eGet2 mo mi mx) σ H Q) : tDGet2 (rd K W x mo) (rd K W x mi) (rd K W x mx) σ H Q := by
  obtain ⟨w, env, S, rfl, s, er, h⟩ := h
  refine ⟨w, env, S, rfl, s, er, h.bind.mono fun d S1 w1 l1 s1 h1 v rv => ?_⟩
  cases e : asD S1 d with
  | none => simp only [e] at h1; exact h1.elim
  | some p =>
    simp only [e] at h1
    obtain ⟨a, rfl, hi⟩ := isD_of s1 e rv
    refine ⟨a, rfl, hi, w1, env, S1, rfl, s1, er.le l1, h1.bind.mono fun i S2 w2 l2 s2 h2 u ru => ?_⟩
    refine ⟨w2, env, S2, rfl, s2, er.le (l1.trans l2), h2.bind.mono fun y S3 w3 l3 s3 h3 z rz => ?_⟩
    cases e2 : asD S3 d with
    | none => simp only [e2] at h3; exact h3.elim
    | some p2 =>
      obtain ⟨t, kvs⟩ := p2
      simp only [e2] at h3
      cases e3 : keyOf t i with
      | none => simp only [e3] at h3; exact h3.elim
      | some k =>
        simp only [e3] at h3
        obtain ⟨a', ea, q1, q2⟩ := dget_of s3 e2 e3 (rep_le (l2.trans l3) _ _ rv) (rep_le l3 _ _ ru)
        cases ea
        cases e4 : dFind kvs k with
        | none => rw [e4] at h3; exact ⟨none, q2 e4, post_at s3 h3 rz⟩
        | some d' =>
          rw [e4] at h3
          obtain ⟨v', g, rv'⟩ := q1 d' e4
          exact ⟨some v', g, post_at s3 h3 rv'⟩
end
end EV
/-! ## A14 -/
set_option Elab.async false
set_option linter.all false
set_option maxRecDepth 100000
set_option maxHeartbeats 2000000
/-! Part 14: comprehensions with two clauses. -/
namespace EV
open PySem PySem.Spec
open PyProof.Rows hiding St
open L2
open Classical in
noncomputable def compG {α : Type} (it : ItS) (f : D → List α → Store → R (List α)) : List D → List α → Store → R (List α)
  | [], acc, S => if gOk S it then .ok acc S else .no
  | d :: ds, acc, S => if gOk S it then (match f d acc S with
    | .ok acc' S' => compG it f ds acc' S'
    | _ => .no) else .no
noncomputable def turn2 {α : Type} (g : GF) (t : BM) (im1 : IM) (g1 : GF) (t1 : BM) (e : Env → Store → R α) (vs1 : List Nat) (env : Env) : D → List α → Store → R (List α) := fun d acc S => match g d env S with
  | .ok env3 S1 => match t env3 S1 with
    | .ok true S2 => match im1 env3 S2 with
      | .ok it1 S3 => if acc.length + it1.ds.length ≤ sizeLine then compF it1 (itemF g1 t1 e (wipeE env3 vs1)) it1.ds acc S3 else .no
      | _ => .no
    | .ok false S2 => .ok acc S2
    | _ => .no
  | _ => .no
noncomputable def eComp2 (c : Bool) (im : IM) (g : GF) (t : BM) (im1 : IM) (g1 : GF) (t1 : BM) (e : EM) (vs vs1 : List Nat) : EM := fun env S => (im env S).bind fun it S1 => (compG it (turn2 g t im1 g1 t1 e vs1 (wipeE env vs)) it.ds [] S1).bind fun ds S2 => mkL c ds S2
theorem EnvR.up {K : PySem.W.Frag} {x : Xc} {w : Wd} {S : Store} {env : Env} {σ : L2.St} {p : Addr} {zs : List V} {u : HO} (h : EnvR K x w env σ) (ow : Own w p (.lst zs)) : EnvR K x (w.up p u) env σ := by
  have lv : LeV w (w.up p u) := own_leV (S := S) ow (fun _ z => nomatch z) fun _ _ z => nomatch z
  refine ⟨h.len, fun j d q => ?_⟩
  obtain ⟨v, h1, h2⟩ := h.at_ j d q
  refine ⟨v, h1, ?_⟩
  rcases h2 with h2 | ⟨a, cls, dd, c, fs, k1, k2, k3, k4⟩
  · exact .inl (rep_leV lv _ _ h2)
  · refine .inr ⟨a, cls, dd, c, fs, k1, k2, k3, k4.1, k4.2.imp id fun ⟨d2, vs, q1, q2, q3, q4, q5⟩ => ⟨d2, vs, q1, ?_, q3, q4, fun f d' z => ?_⟩⟩
    · exact (upd_ne fun z => by rw [z, ow.at_] at q2; cases q2).trans q2
    · obtain ⟨v', z1, z2⟩ := q5 f d' z
      exact ⟨v', z1, rep_leV lv _ _ z2⟩
section
variable {K : PySem.W.Frag} {W : WX} {x : Xc} {σ : L2.St} {H : Hp} {Q : VK}
theorem sim_comp2 {c : Bool} {im im1 : IM} {g g1 : GF} {t t1 : BM} {e : EM} {vs vs1 sl sl1 : List Nat} (hs : ∀ j ∈ sl, j ∈ vs) (hs1 : ∀ j ∈ sl1, j ∈ vs1) (h : rd K W x (eComp2 c im g t im1 g1 t1 e vs vs1) σ H Q) :
    tLc2 (rdI K W x im) (rdG K x sl g) (rdB K W0 x t) (rdI K W0 x im1) (rdG K x sl1 g1) (rdB K W0 x t1) (rd K W0 x e) vs vs1 σ H Q := by
  obtain ⟨w, env, S, rfl, s, er, h⟩ := h
  refine ⟨w, env, S, rfl, s, er, h.bind.mono fun it S1 w1 l1 s1 h1 J hJ p hp => ?_⟩
  have nt : ∀ {zs : List V} xs, HO.lst zs ≠ .tup xs := fun _ z => nomatch z
  have nf : ∀ {zs : List V} b z, HO.lst zs ≠ .frz b z := fun _ _ z => nomatch z
  refine ⟨fun i m H' => m = it.ds.length - i ∧ i ≤ it.ds.length ∧ ∃ w' S' acc vsA, w'.H = H' ∧ Le w1 w' ∧ SR K w' S' ∧ Own w' p (.lst vsA) ∧ RepL K w' acc vsA ∧ acc.length ≤ sizeLine ∧
      Post K W σ w1 ((compG it (turn2 g t im1 g1 t1 e vs1 (wipeE env vs)) (it.ds.drop i) acc S').bind fun ds S2 => mkL c ds S2) (fun d _ w' => ∀ v, Rep K w' d v → Q v w'.H),
    ⟨_, rfl, Nat.zero_le _, w1.tp p (.lst []), S1, [], [], rfl, le_tp s1 hp, sr_tp s1 hp, Own.fresh s1 hp, rfl, Nat.zero_le _, h1⟩, ?_⟩
  rintro i m H' ⟨rfl, hi, w', S', acc, vsA, rfl, l', s', ow, ra, hal, h'⟩
  have hz : vsA.length ≤ sizeLine := by rw [← ra.length]; exact hal
  by_cases hlt : i < it.ds.length
  · rw [List.drop_eq_getElem_cons hlt] at h'
    simp only [compG] at h'
    by_cases gk : gOk S' it
    · rw [if_pos gk] at h'
      refine .inr ⟨hJ.go i w' S' l'.toLeV s' gk hlt, fun H2 => ∃ w2 S2 acc2 vs2, w2.H = H2 ∧ Le w1 w2 ∧ SR K w2 S2 ∧ Own w2 p (.lst vs2) ∧ RepL K w2 acc2 vs2 ∧ acc2.length ≤ sizeLine ∧
          Post K W σ w1 ((compG it (turn2 g t im1 g1 t1 e vs1 (wipeE env vs)) (it.ds.drop (i + 1)) acc2 S2).bind fun ds S2 => mkL c ds S2) (fun d _ w' => ∀ v, Rep K w' d v → Q v w'.H),
        fun H2 a => ⟨it.ds.length - (i + 1), by omega, rfl, hlt, a⟩, fun v H2 y => ?_⟩
      obtain ⟨w2, rfl, l2, s2, rv⟩ := hJ.yld i w' S' v H2 (it.ds[i]) l'.toLeV s' gk (List.getElem?_eq_getElem hlt) y
      have erw : EnvR K x w2 (wipeE env vs) (L2.wipe σ vs) := (((er.le l1).le l').le l2).wipe vs
      refine ⟨w2, wipeE env vs, S', it.ds[i], rfl, s2, erw, rv, ?_⟩
      unfold turn2 at h'
      cases eg : g (it.ds[i]) (wipeE env vs) S' with
      | er y S3 => simp only [eg] at h'; exact h'.elim
      | no => simp only [eg] at h'; exact h'.elim
      | ok env3 S3 =>
        simp only [eg] at h'
        intro w3 l3 s3 σ3 er3 so
        refine ⟨wipe_same so hs, w3, env3, S3, rfl, s3, er3, ?_⟩
        have l13 : Le w1 w3 := (l'.trans l2).trans l3
        cases et : t env3 S3 with
        | er y S4 => simp only [et] at h'; exact h'.elim
        | no => simp only [et] at h'; exact h'.elim
        | ok b S4 =>
          simp only [et] at h'
          intro w4 l4 s4
          cases b with
          | false =>
            rw [if_neg Bool.false_ne_true]
            simp only at h'
            exact ⟨w4, S4, acc, vsA, rfl, l13.trans l4, s4, ((ow.le l2).le l3).le l4, repL_le ((l2.trans l3).trans l4) _ _ ra, hal, h'⟩
          | true =>
            rw [if_pos rfl]
            simp only at h'
            refine ⟨w4, env3, S4, rfl, s4, er3.le l4, ?_⟩
            cases ei : im1 env3 S4 with
            | er y S5 => simp only [ei] at h'; exact h'.elim
            | no => simp only [ei] at h'; exact h'.elim
            | ok it1 S5 =>
              simp only [ei] at h'
              intro w5 l5 s5 J1 hJ1
              by_cases hn : acc.length + it1.ds.length ≤ sizeLine
              · rw [if_pos hn] at h'
                have l25 := ((l2.trans l3).trans l4).trans l5
                have l15 : Le w1 w5 := l13.trans (l4.trans l5)
                -- the inner loop
                refine ⟨fun j k H' => k = it1.ds.length - j ∧ j ≤ it1.ds.length ∧ ∃ w6 S6 acc6 vs6, w6.H = H' ∧ EnvR K x w6 env3 σ3 ∧ LeV w5 w6 ∧ Le w1 w6 ∧ SR K w6 S6 ∧ Own w6 p (.lst vs6) ∧ RepL K w6 acc6 vs6 ∧ acc6.length ≤ acc.length + j ∧
                    Post K W σ w1 (((compF it1 (itemF g1 t1 e (wipeE env3 vs1)) (it1.ds.drop j) acc6 S6).bind fun acc' S' => compG it (turn2 g t im1 g1 t1 e vs1 (wipeE env vs)) (it.ds.drop (i + 1)) acc' S').bind fun ds S2 => mkL c ds S2) (fun d _ w' => ∀ v, Rep K w' d v → Q v w'.H),
                  ⟨_, rfl, Nat.zero_le _, w5, S5, acc, vsA, rfl, (er3.le l4).le l5, LeV.refl _, l15, s5, ow.le l25, repL_le l25 _ _ ra, Nat.le_refl _, ?_⟩, ?_⟩
                · cases ec : compF it1 (itemF g1 t1 e (wipeE env3 vs1)) it1.ds acc S5 with
                  | ok a b => rw [ec] at h'; show Post K W σ w1 (((compF it1 (itemF g1 t1 e (wipeE env3 vs1)) (it1.ds.drop 0) acc S5).bind _).bind _) _; rw [List.drop_zero, ec]; exact h'
                  | er a b => rw [ec] at h'; exact h'.elim
                  | no => rw [ec] at h'; exact h'.elim
                · clear h'
                  rintro j k H6 ⟨rfl, hj, w6, S6, acc6, vs6, rfl, er6, l56, l16, s6, ow6, ra6, hal6, h6⟩
                  by_cases hlt1 : j < it1.ds.length
                  · rw [List.drop_eq_getElem_cons hlt1] at h6
                    simp only [compF] at h6
                    by_cases gk1 : gOk S6 it1
                    · rw [if_pos gk1] at h6
                      refine .inr ⟨hJ1.go j w6 S6 l56 s6 gk1 hlt1, fun H2 => ∃ w7 S7 acc7 vs7, w7.H = H2 ∧ EnvR K x w7 env3 σ3 ∧ LeV w5 w7 ∧ Le w1 w7 ∧ SR K w7 S7 ∧ Own w7 p (.lst vs7) ∧ RepL K w7 acc7 vs7 ∧ acc7.length ≤ acc.length + (j + 1) ∧
                          Post K W σ w1 (((compF it1 (itemF g1 t1 e (wipeE env3 vs1)) (it1.ds.drop (j + 1)) acc7 S7).bind fun acc' S' => compG it (turn2 g t im1 g1 t1 e vs1 (wipeE env vs)) (it.ds.drop (i + 1)) acc' S').bind fun ds S2 => mkL c ds S2) (fun d _ w' => ∀ v, Rep K w' d v → Q v w'.H),
                        fun H2 a => ⟨it1.ds.length - (j + 1), by omega, rfl, hlt1, a⟩, fun v H2 y => ?_⟩
                      obtain ⟨w7, rfl, l7, s7, rv7⟩ := hJ1.yld j w6 S6 v H2 (it1.ds[j]) l56 s6 gk1 (List.getElem?_eq_getElem hlt1) y
                      have er7 : EnvR K x w7 (wipeE env3 vs1) (L2.wipe σ3 vs1) := (er6.le l7).wipe vs1
                      refine ⟨w7, wipeE env3 vs1, S6, it1.ds[j], rfl, s7, er7, rv7, ?_⟩
                      unfold itemF at h6
                      cases eg1 : g1 (it1.ds[j]) (wipeE env3 vs1) S6 with
                      | er y S8 => simp only [eg1] at h6; exact h6.elim
                      | no => simp only [eg1] at h6; exact h6.elim
                      | ok env8 S8 =>
                        simp only [eg1] at h6
                        intro w8 l8 s8 σ8 er8 so8
                        refine ⟨wipe_same so8 hs1, w8, env8, S8, rfl, s8, er8, ?_⟩
                        cases et1 : t1 env8 S8 with
                        | er y S9 => simp only [et1] at h6; exact h6.elim
                        | no => simp only [et1] at h6; exact h6.elim
                        | ok b S9 =>
                          simp only [et1] at h6
                          intro w9 l9 s9
                          have l69 := (l7.trans l8).trans l9
                          cases b with
                          | false =>
                            simp only [Bool.false_eq_true, if_false]
                            simp only at h6
                            exact ⟨w9, S9, acc6, vs6, rfl, er6.le l69, l56.trans l69.toLeV, l16.trans l69, s9, ow6.le l69, repL_le l69 _ _ ra6, by omega, h6⟩
                          | true =>
                            simp only [if_true]
                            simp only at h6
                            refine ⟨w9, env8, S9, rfl, s9, er8.le l9, ?_⟩
                            cases ee : e env8 S9 with
                            | er y Sa => simp only [ee, R.bind_er] at h6; exact h6.elim
                            | no => simp only [ee, R.bind_no] at h6; exact h6.elim
                            | ok y Sa =>
                              simp only [ee, R.bind_ok] at h6
                              intro wa la sa u ru
                              have l6a := l69.trans la
                              have owa := ow6.le l6a
                              have raa := repL_le l6a _ _ ra6
                              refine ⟨vs6, owa.at_, by rw [← ra6.length]; omega, ?_⟩
                              have lv := own_leV (S := Sa) (u := .lst (vs6 ++ [u])) owa nt nf
                              exact ⟨wa.up p (.lst (vs6 ++ [u])), Sa, acc6 ++ [y], vs6 ++ [u], rfl, (er6.le l6a).up (S := Sa) owa, (l56.trans l6a.toLeV).trans lv, own_le hp owa (l16.trans l6a), own_sr sa owa nt nf, own_up owa,
                                (repL_leV lv _ _ raa).append ⟨u, [], rfl, rep_leV lv _ _ ru, rfl⟩, by simp; omega, h6⟩
                    · rw [if_neg gk1] at h6
                      exact h6.elim
                  · have ej : j = it1.ds.length := by omega
                    subst ej
                    rw [List.drop_length] at h6
                    simp only [compF] at h6
                    by_cases gk1 : gOk S6 it1
                    · rw [if_pos gk1] at h6
                      exact .inl ⟨hJ1.stop _ w6 S6 l56 s6 gk1 (Nat.le_refl _), w6, S6, acc6, vs6, rfl, l16, s6, ow6, ra6, by omega, h6⟩
                    · rw [if_neg gk1] at h6
                      exact h6.elim
              · rw [if_neg hn] at h'
                exact h'.elim
    · rw [if_neg gk] at h'
      exact h'.elim
  · have e : i = it.ds.length := by omega
    subst e
    rw [List.drop_length] at h'
    simp only [compG] at h'
    by_cases gk : gOk S' it
    · rw [if_pos gk] at h'
      exact .inl ⟨hJ.stop _ w' S' l'.toLeV s' gk (Nat.le_refl _), own_mkL s' hp ow l' ra hz h'⟩
    · rw [if_neg gk] at h'
      exact h'.elim
end
end EV
/-! ## A15 -/
set_option Elab.async false
set_option linter.all false
set_option maxRecDepth 100000
set_option maxHeartbeats 2000000
/-! Part 15: what must be seen of the text. -/
namespace EV
open PySem PySem.Spec
open PyProof.Rows hiding St
open L2
def noStar : Expr → Bool
  | .Starred _ _ => false
  | _ => true
theorem star_cons {e : Expr} {es : List Expr} {env : PySem.Env} (h : noStar e = true) : starEach (e :: es) env = (false, eval e env) :: starEach es env := by
  cases e <;> first | rfl | cases h
theorem star_any {pos : Pos} {env : PySem.Env} : ∀ {es : List Expr}, es.all noStar = true → (backTo pos (starEach es env)).any (·.1) = false
  | [], _ => rfl
  | e :: es, h => by
    rw [List.all_cons, Bool.and_eq_true] at h
    rw [star_cons h.1]
    show (false || (backTo pos (starEach es env)).any (·.1)) = false
    rw [star_any h.2]
    rfl
theorem star_all {pos : Pos} {env : PySem.Env} : ∀ {es : List Expr}, es.all noStar = true → (backTo pos (starEach es env)).all (fun x => !x.1) = true
  | [], _ => rfl
  | e :: es, h => by
    rw [List.all_cons, Bool.and_eq_true] at h
    rw [star_cons h.1]
    show (true && (backTo pos (starEach es env)).all (fun x => !x.1)) = true
    rw [star_all h.2]
    rfl
def plainO : Expr → Bool
  | .Call _ _ _ _ => false
  | _ => true
theorem base_of {o : Expr} {m : Str} {env : PySem.Env} (h : plainO o = true) : attributeBase o m env (eval o env) = eval o env := by
  cases o <;> first | rfl | cases h
theorem few_of {cpos : Pos} {e : Expr} {es : List Expr} {env : PySem.Env} (h : (e :: es).all noStar = true) (hl : decide ((e :: es).length < 29) = true) : ((backTo cpos (starEach (e :: es) env)).all (fun x => !x.1) && (backToKw cpos (keywordEach [] env)).all (fun x => x.1.isSome)
      && decide ((e :: es).length + ([] : List Keyword).length + (if ([] : List Keyword).isEmpty then 0 else 1) < 30)) = true := by
  rw [star_all h]
  simp only [decide_eq_true_eq] at hl
  simp [backToKw, keywordEach]
  simp at hl
  omega
def noSlice : Expr → Bool
  | .Slice _ _ _ _ => false
  | _ => true
theorem plainIx_of {b : Expr} (h : noSlice b = true) : PlainIx b := by
  intro o i
  cases b <;> first | rfl | cases h
def noComp : Expr → Bool
  | .ListComp _ _ _ _ => false
  | .SetComp _ _ _ _ => false
  | .DictComp _ _ _ _ _ => false
  | _ => true
theorem swaps_no {e : Expr} {t : Option Expr} {n : Nat} {env : PySem.Env} (h : noComp e = true) : swapsWith e t n env = pure false := by
  cases e <;> first | rfl | cases h
def noSet : Expr → Bool
  | .Set _ _ _ => false
  | _ => true
theorem folded_no {e : Expr} {env : PySem.Env} {x : Value} (h : noSet e = true) : foldedSetIterable e env x = pure x := by
  cases e <;> first | rfl | cases h
def noTupE : Expr → Bool
  | .Tuple _ _ _ => false
  | _ => true
theorem stores_no {t e : Expr} {env : PySem.Env} (h : noTupE e = true) : swappedStores [t] e env = pure none := by
  cases e <;> first | (cases t <;> rfl) | cases h
/-- a test that is a value's truth -/
def plainT : Expr → Bool
  | .Compare _ _ _ _ => false
  | .BoolOp _ _ _ => false
  | .UnaryOp .Not _ _ => false
  | .IfExp _ _ _ _ => false
  | .NamedExpr _ _ _ => false
  | _ => true
theorem plainT_of {e : Expr} {env : PySem.Env} (h : plainT e = true) : ∀ whole, isTrue e env whole = (do let v ← whole; standAt e.pos; holding [v] (truthy v)) := by
  intro whole
  cases e with
  | UnaryOp op a p => cases op <;> first | rfl | cases h
  | _ => first | rfl | cases h
theorem behind_no {op : CmpOp} {b : Expr} (h : noSet b = true) : behindInMarks op b = false := by
  cases b <;> first | rfl | cases h
end EV
/-! ## A16 -/
set_option Elab.async false
set_option linter.all false
set_option maxRecDepth 100000
set_option maxHeartbeats 2000000
/-! Part 16: the context of a text; built-in functions and methods by name. -/
namespace EV
open PySem PySem.Spec
open PyProof.Rows hiding St
open L2 EV0
/-! ### built-in functions by name -/
structure BOk (x : Str) (v : Value) (f : FN) : Prop where
  boot : bootBuiltins x = some v
  ne : x ≠ "__name__"
  kind : (∃ id, v = .builtin id) ∨ ∃ T, v = .type T
  run : ∀ X : Cx, X.calm = true → X.A.units + 65 < cLine → ∃ r, CallR X v r ∧ OpC X.K r f
def bltF (cell : Bool) (x : Str) (n : Nat) : Option (Value × FN) :=
  if x = "len" then (if n = 1 then some (.builtin "len", fLen) else none)
  else if x = "int" then (if n = 1 then some (.type "int", fInt) else none)
  else if x = "tuple" then (if n = 1 then some (.type "tuple", if cell then fTupleK else fTuple) else none)
  else if x = "list" then (if n = 1 then some (.type "list", fList cell) else none)
  else if x = "abs" then (if n = 1 then some (.builtin "abs", fAbs) else none)
  else if x = "isinstance" then (if n = 2 then some (.builtin "isinstance", fIsi) else none)
  else if x = "min" then (if n = 2 then some (.builtin "min", fMin2) else if n = 1 then some (.builtin "min", fMin1) else none)
  else if x = "max" then (if n = 2 then some (.builtin "max", fMax2) else if n = 1 then some (.builtin "max", fMax1) else none)
  else if x = "sum" then (if n = 1 then some (.builtin "sum", fSum) else none)
  else none
theorem bltF_ok {cell : Bool} {x : Str} {n : Nat} {v : Value} {f : FN} (h : bltF cell x n = some (v, f)) : BOk x v f := by
  unfold bltF at h
  split at h
  · rename_i e; split at h <;> cases h
    exact ⟨by rw [e]; boot_by_name, by rw [e]; decide, .inl ⟨_, rfl⟩, fun X hc hu => ⟨_, call_len2, opc_len⟩⟩
  split at h
  · rename_i e; split at h <;> cases h
    exact ⟨by rw [e]; boot_by_name, by rw [e]; decide, .inr ⟨_, rfl⟩, fun X hc hu => ⟨_, call_int1, opc_int⟩⟩
  split at h
  · rename_i e; split at h <;> cases h
    refine ⟨by rw [e]; boot_by_name, by rw [e]; decide, .inr ⟨_, rfl⟩, fun X hc hu => ?_⟩
    cases cell with
    | true => exact ⟨_, call_tupK, opc_tupK⟩
    | false => exact ⟨_, call_tuple_of, opc_tuple⟩
  split at h
  · rename_i e; split at h <;> cases h
    exact ⟨by rw [e]; boot_by_name, by rw [e]; decide, .inr ⟨_, rfl⟩, fun X hc hu => ⟨_, call_list_of, opc_list⟩⟩
  split at h
  · rename_i e; split at h <;> cases h
    exact ⟨by rw [e]; boot_by_name, by rw [e]; decide, .inl ⟨_, rfl⟩, fun X hc hu => ⟨_, call_abs, opc_abs⟩⟩
  split at h
  · rename_i e; split at h <;> cases h
    exact ⟨by rw [e]; boot_by_name, by rw [e]; decide, .inl ⟨_, rfl⟩, fun X hc hu => ⟨_, call_isiA, opc_isi⟩⟩
  split at h
  · rename_i e; split at h
    · cases h
      exact ⟨by rw [e]; boot_by_name, by rw [e]; decide, .inl ⟨_, rfl⟩, fun X hc hu => ⟨_, call_min2 hc, opc_min2⟩⟩
    · split at h <;> cases h
      exact ⟨by rw [e]; boot_by_name, by rw [e]; decide, .inl ⟨_, rfl⟩, fun X hc hu => ⟨_, cr_min hc, opc_min1⟩⟩
  split at h
  · rename_i e; split at h
    · cases h
      exact ⟨by rw [e]; boot_by_name, by rw [e]; decide, .inl ⟨_, rfl⟩, fun X hc hu => ⟨_, call_max2 hc, opc_max2⟩⟩
    · split at h <;> cases h
      exact ⟨by rw [e]; boot_by_name, by rw [e]; decide, .inl ⟨_, rfl⟩, fun X hc hu => ⟨_, cr_max hc, opc_max1⟩⟩
  split at h
  · rename_i e; split at h <;> cases h
    exact ⟨by rw [e]; boot_by_name, by rw [e]; decide, .inl ⟨_, rfl⟩, fun X hc hu => ⟨_, cr_sum hc, opc_sum⟩⟩
  cases h
/-- the built-in types as values -/
def tyF (x : Str) : Option String :=
  if x = "int" then some "int" else if x = "bool" then some "bool" else if x = "tuple" then some "tuple" else if x = "list" then some "list" else if x = "str" then some "str" else if x = "dict" then some "dict" else none
theorem tyF_ok {x : Str} {T : String} (h : tyF x = some T) : bootBuiltins x = some (.type T) ∧ x ≠ "__name__" := by
  unfold tyF at h
  iterate 6
    split at h
    · rename_i e
      cases h
      exact ⟨by rw [e]; boot_by_name, by rw [e]; decide⟩
  cases h
/-! ### methods by name -/
structure MOk (T : String) (m : Str) (f : FM) : Prop where
  pa : PlainAttrs T
  ex : ∃ id, Slot T m id ∧ typeOf (.builtin id) = pure (.type "method_descriptor") ∧ ∀ X : Cx, X.A.units + 65 < cLine → ∃ r, MtR X id r ∧ OpM X.K r f
/-- of a list -/
def mthL (m : Str) (n : Nat) : Option FM :=
  if m = "append" then (if n = 1 then some fmAppend else none)
  else if m = "pop" then (if n ≤ 1 then some fmPop else none)
  else if m = "count" then (if n = 1 then some fmCountL else none)
  else if m = "index" then (if n = 1 then some fmIndexL else none)
  else if m = "extend" then (if n = 1 then some fmExtend else none)
  else if m = "insert" then (if n = 2 then some fmInsert else none)
  else if m = "remove" then (if n = 1 then some fmRemove else none)
  else if m = "clear" then (if n = 0 then some fmClear else none)
  else if m = "reverse" then (if n = 0 then some fmReverse else none)
  else none
def mthT (m : Str) (n : Nat) : Option FM :=
  if m = "count" then (if n = 1 then some fmCountT else none)
  else if m = "index" then (if n = 1 then some fmIndexT else none)
  else none
theorem mthL_ok {m : Str} {n : Nat} {f : FM} (h : mthL m n = some f) : MOk "list" m f := by
  unfold mthL at h
  split at h
  · rename_i e; split at h <;> cases h
    subst e
    exact ⟨F.plainAttrs_list, _, F.slot_list_append, F.type_list_append, fun X hu => ⟨_, mt_append, opm_append⟩⟩
  split at h
  · rename_i e; split at h <;> cases h
    subst e
    exact ⟨F.plainAttrs_list, _, F.slot_list_pop, F.type_list_pop, fun X hu => ⟨_, mt_pop2, opm_pop⟩⟩
  split at h
  · rename_i e; split at h <;> cases h
    subst e
    exact ⟨F.plainAttrs_list, _, F.slot_list_count, F.type_list_count, fun X hu => ⟨_, mt_lcount, opm_countL⟩⟩
  split at h
  · rename_i e; split at h <;> cases h
    subst e
    exact ⟨F.plainAttrs_list, _, F.slot_list_index, F.type_list_index, fun X hu => ⟨_, mt_indexD hu, opm_indexL⟩⟩
  split at h
  · rename_i e; split at h <;> cases h
    subst e
    exact ⟨F.plainAttrs_list, _, F.slot_list_extend, F.type_list_extend, fun X hu => ⟨_, mt_extend, opm_extend⟩⟩
  split at h
  · rename_i e; split at h <;> cases h
    subst e
    exact ⟨F.plainAttrs_list, _, F.slot_list_insert, F.type_list_insert, fun X hu => ⟨_, mt_insertR, opm_insert⟩⟩
  split at h
  · rename_i e; split at h <;> cases h
    subst e
    exact ⟨F.plainAttrs_list, _, F.slot_list_remove, F.type_list_remove, fun X hu => ⟨_, mt_remove, opm_remove⟩⟩
  split at h
  · rename_i e; split at h <;> cases h
    subst e
    exact ⟨F.plainAttrs_list, _, F.slot_list_clear, F.type_list_clear, fun X hu => ⟨_, mt_clear, opm_clear⟩⟩
  split at h
  · rename_i e; split at h <;> cases h
    subst e
    exact ⟨F.plainAttrs_list, _, F.slot_list_reverse, F.type_list_reverse, fun X hu => ⟨_, mt_reverse, opm_reverse⟩⟩
  cases h
theorem mthT_ok {m : Str} {n : Nat} {f : FM} (h : mthT m n = some f) : MOk "tuple" m f := by
  unfold mthT at h
  split at h
  · rename_i e; split at h <;> cases h
    subst e
    exact ⟨F.plainAttrs_tuple, _, F.slot_tuple_count, F.type_tuple_count, fun X hu => ⟨_, mt_tcount, opm_countT⟩⟩
  split at h
  · rename_i e; split at h <;> cases h
    subst e
    exact ⟨F.plainAttrs_tuple, _, F.slot_tuple_index, F.type_tuple_index, fun X hu => ⟨_, mt_tindex, opm_indexT⟩⟩
  cases h
/-- of whichever it is -/
def eMeth2 (fL fT : Option FM) (m : EM) (ms : List EM) : EM := fun env S => match m env S with
  | .ok d S1 => if tyD "list" S1 d then (match fL with
    | some f => (aList ms env S1).bind fun ds S2 => f d ds S2
    | none => .no) else if tyD "tuple" S1 d then (match fT with
    | some f => (aList ms env S1).bind fun ds S2 => f d ds S2
    | none => .no) else .no
  | .er x S => .er x S
  | .no => .no
section
variable {K : PySem.W.Frag} {W : WX} {x : Xc} {σ : L2.St} {H : Hp} {Q : VK}
theorem sim_meth2 {fL fT : Option FM} {m : EM} {ms : List EM} (h0 : fL.isSome = true ∨ fT.isSome = true) (h : rd K W x (eMeth2 fL fT m ms) σ H Q) : (∃ f, fL = some f ∧ rd K W x (eMeth "list" f m ms) σ H Q) ∨ (∃ f, fT = some f ∧ rd K W x (eMeth "tuple" f m ms) σ H Q) := by
  obtain ⟨w, env, S, rfl, s, er, h⟩ := h
  unfold eMeth2 at h
  cases e : m env S with
  | no => rw [e] at h; exact h.elim
  | er y S1 =>
    rw [e] at h
    rcases h0 with h0 | h0
    · obtain ⟨f, ef⟩ := Option.isSome_iff_exists.mp h0
      exact .inl ⟨f, ef, w, env, S, rfl, s, er, by unfold eMeth; rw [e]; exact h⟩
    · obtain ⟨f, ef⟩ := Option.isSome_iff_exists.mp h0
      exact .inr ⟨f, ef, w, env, S, rfl, s, er, by unfold eMeth; rw [e]; exact h⟩
  | ok d S1 =>
    simp only [e] at h
    by_cases b : tyD "list" S1 d = true
    · rw [if_pos b] at h
      cases fL with
      | none => exact h.elim
      | some f => exact .inl ⟨f, rfl, w, env, S, rfl, s, er, by unfold eMeth; rw [e, R.bind_ok, if_pos b]; exact h⟩
    · rw [if_neg b] at h
      by_cases b2 : tyD "tuple" S1 d = true
      · rw [if_pos b2] at h
        cases fT with
        | none => exact h.elim
        | some f => exact .inr ⟨f, rfl, w, env, S, rfl, s, er, by unfold eMeth; rw [e, R.bind_ok, if_pos b2]; exact h⟩
      · rw [if_neg b2] at h
        exact h.elim
end
end EV
/-! ## A17 -/
set_option Elab.async false
set_option linter.all false
set_option maxRecDepth 100000
set_option maxHeartbeats 2000000
/-! Part 17: what a text means, by its form: contexts, names, arguments, targets, what is walked. -/
namespace EV
open PySem PySem.Spec
open PyProof.Rows hiding St
open L2 EV0
inductive GK where
  | fn (m : FN) | val (d : D) | cls (c : Str) | exc (c : Str) (fs : List Str)
structure Gm where
  N : List Str
  sc : Scope
  gl : Str → Option GK
  blt : Str → Bool
  /-- the places at which a new list or dict is a cell, a tuple's object is kept -/
  cells : Nat → Nat → Bool
  /-- the places at which a new dict has tuples as its keys -/
  tks : Nat → Nat → Bool
  calm : Bool
  top : Bool
  xs : Option Nat
  fn : Str → Bool
  ex : Str → Str → Option Bool
  kt : Str → Str → Option Bool
  xok : Str → Str → Bool
def GlobR (X : Cx) (y : Str) : GK → Prop
  | .fn m => ∃ f k, X.mg y = some (.ref f) ∧ PySem.W.keepIn X.K (.ref f) = true ∧ FnD X.prog X.w X.K X.mg X.base k f m ∧ Room k X.A
  | .val d => ∃ u v, X.mg y = some u ∧ RelV v u ∧ ∀ w, Rep X.K w d v
  | .cls c => X.mg y = some (.ref (gaK X.K c))
  | .exc c fs => ∃ k, X.mg y = some (.ref (gaK X.K c)) ∧ XCls X.prog X.w X.K X.mg X.base k c fs ∧ Room (k + 1) X.A
/-- what stands still under a try, an except suite, a block -/
structure Tabs (G : Gm) (K : PySem.W.Frag) : Prop where
  ex : ∀ c c' b, G.ex c c' = some b → PySem.W.exmOne K (.ref (gaK K c)) (.ref (gaK K c')) = some b
  kt : ∀ c c' b, G.kt c c' = some b → ExcC K (gaK K c) ∧ PySem.W.kitOne K (.ref (gaK K c)) (.ref (gaK K c')) = some b
  xok : ∀ c f, G.xok c f = true → XfC K (gaK K c) ∧ PySem.W.findIn K (.ref (gaK K c)) f = some none
structure Good (G : Gm) (X : Cx) (W : WX) (x : Xc) : Prop where
  hN : X.N = G.N
  nd : G.N.Nodup
  hsc : X.env.scope = G.sc
  tk : Takes X W
  un : X.A.units + 65 < cLine
  calm : G.calm = true → X.calm = true
  top : G.top = true → X.stack = X.env :: X.outer ∧ X.env.frame = some X.env.locals ∧ PassesOwn (model X.prog X.w) X.A X.env X.xe ∧ x = none
  fn : ∀ y, G.fn y = true → X.fn y = true
  gl : ∀ y g, G.gl y = some g → GlobR X y g
  blt : ∀ y, G.blt y = true → X.mg y = none
  suite : ∀ i, G.xs = some i → ∃ a oe cls d pn X0, X = Cx.suite X0 a ((a, oe) :: pn) ∧ Zc cls d oe ∧ (∃ vs, oe.data = .fields vs) ∧ x = some (i, a, cls, d)
  tabs : Tabs G X.K
structure Cp where
  e : Gm → Expr → Option EM
  t : Gm → Expr → Option BM
  g : Gm → Expr → Option (GF × List Nat)
  s : Gm → Stmt → SM
  ss : Gm → List Stmt → SM
structure Snd (c : Cp) : Prop where
  e : ∀ {G : Gm} {X : Cx} {W : WX} {x : Xc} {ex : Expr} {m : EM}, Good G X W x → c.e G ex = some m → PE X ex (rd X.K W x m)
  t : ∀ {G : Gm} {X : Cx} {W : WX} {x : Xc} {ex : Expr} {m : BM}, Good G X W x → c.t G ex = some m → PT X ex (rdB X.K W x m)
  g : ∀ {G : Gm} {X : Cx} {W : WX} {x : Xc} {ex : Expr} {m : GF} {sl : List Nat}, Good G X W x → c.g G ex = some (m, sl) → PG X ex (rdG X.K x sl m)
  s : ∀ {G : Gm} {X : Cx} {W : WX} {x : Xc} {st : Stmt}, Good G X W x → PS X st (rdS X.K W x (c.s G st))
  ss : ∀ {G : Gm} {X : Cx} {W : WX} {x : Xc} {st : List Stmt}, Good G X W x → PSs X st (rdS X.K W x (c.ss G st))
def cp0 : Cp := ⟨fun _ _ => none, fun _ _ => none, fun _ _ => none, fun _ _ _ _ => .no, fun _ _ _ _ => .no⟩
theorem stuckS {X : Cx} {W : WX} {x : Xc} {st : Stmt} : PS X st (rdS X.K W x fun _ _ => .no) := ⟨fun pins s σ H D I h => by
  obtain ⟨_, _, _, _, _, _, h⟩ := h
  exact h.elim⟩
theorem stuckSs {X : Cx} {W : WX} {x : Xc} {st : List Stmt} : PSs X st (rdS X.K W x fun _ _ => .no) := ⟨fun pins s σ H D I h => by
  obtain ⟨_, _, _, _, _, _, h⟩ := h
  exact h.elim⟩
theorem snd0 : Snd cp0 where
  e := fun _ h => nomatch h
  t := fun _ h => nomatch h
  g := fun _ h => nomatch h
  s := fun _ => stuckS
  ss := fun _ => stuckSs
section
variable {c : Cp} {G : Gm} {X : Cx} {W : WX} {x : Xc}
theorem PGimp {e : Expr} {g g' : TG} (h : PG X e g) (k : ∀ v σ H Q, g' v σ H Q → g v σ H Q) : PG X e g' := ⟨fun pins s σ H v u Q I r q => h.run pins s σ H v u Q I r (k v σ H Q q)⟩
theorem PGor {e : Expr} {g g' : TG} (h : PG X e g) (h' : PG X e g') : PG X e (fun v σ H Q => g v σ H Q ∨ g' v σ H Q) := ⟨fun pins s σ H v u Q I r q => q.elim (h.run pins s σ H v u Q I r) (h'.run pins s σ H v u Q I r)⟩
theorem PGsimp {e : List Expr} {g g' : TGs} (h : PGs X e g) (k : ∀ v σ H Q, g' v σ H Q → g v σ H Q) : PGs X e g' := ⟨fun pins s σ H v u Q I r q => h.run pins s σ H v u Q I r (k v σ H Q q)⟩
theorem PIimp {tg e : Expr} {g g' : TI} (h : PI X tg e g) (k : ∀ σ H Q, g' σ H Q → g σ H Q) : PI X tg e g' := ⟨fun pins s σ H Q I q => h.run pins s σ H Q I (k σ H Q q)⟩
theorem PSimp {st : Stmt} {t t' : TS} (h : PS X st t) (k : ∀ D σ H, t' D σ H → t D σ H) : PS X st t' := ⟨fun pins s σ H D I q => h.run pins s σ H D I (k D σ H q)⟩
theorem PSsimp {st : List Stmt} {t t' : TS} (h : PSs X st t) (k : ∀ D σ H, t' D σ H → t D σ H) : PSs X st t' := ⟨fun pins s σ H D I q => h.run pins s σ H D I (k D σ H q)⟩
theorem PTsimp {es : List Expr} {t t' : TT} (h : PTs X es t) (k : ∀ σ H Q, t' σ H Q → t σ H Q) : PTs X es t' := ⟨fun pins s σ H Q I q => h.run pins s σ H Q I (k σ H Q q)⟩
/-! ### names -/
def glB (sc : Scope) (x : Str) : Bool := match sc.names.lookup x with
  | some .globalImplicit => true
  | _ => false
theorem glB_ok {x : Str} (g : Good G X W x') (h : glB G.sc x = true) : Gl X x := by
  unfold glB at h
  show X.env.scope.names.lookup x = _
  rw [g.hsc]
  split at h
  · assumption
  · cases h
theorem visG {y : Str} (g : Good G X W x) (h : visB G.sc y = true) : Vis X.env.scope y := by
  rw [g.hsc]
  exact visB_ok h
def cGlob (G : Gm) (x : Str) : Option EM := if glB G.sc x then match G.gl x with
  | some (.val d) => some (eC d)
  | some (.cls c) => some (eC (.cls c))
  | some (.exc c _) => some (eC (.cls c))
  | some (.fn _) => none
  | none => if G.blt x then match tyF x with
    | some T => some (eC (.ty T))
    | none => none else none else none
def cName (G : Gm) (x : Str) : Option EM := if noDbg x then match ixOf G.N x with
  | some i => if visB G.sc x then some (eVar i) else cGlob G x
  | none => cGlob G x else none
theorem cGlob_ok {y : Str} {m : EM} {pos : Pos} (g : Good G X W x) (hd : (y == ("__debug__" : Str)) = false) (h : cGlob G y = some m) : PE X (.Name y pos) (rd X.K W x m) := by
  unfold cGlob at h
  split at h
  · rename_i b
    have hg := glB_ok g b
    split at h
    · rename_i d e
      cases h
      obtain ⟨u, v, h1, h2, h3⟩ := g.gl y _ e
      exact PEimp (pe_glob hg h1 h2 hd) fun σ H Q q => sim_c h3 q
    · rename_i c e
      cases h
      exact PEimp (pe_glob (v := .ref (gaK X.K c)) hg (g.gl y _ e) rfl hd) fun σ H Q q => sim_c (d := .cls c) (fun _ => rfl) q
    · rename_i c fs e
      cases h
      obtain ⟨k, h1, _⟩ := g.gl y _ e
      exact PEimp (pe_glob (v := .ref (gaK X.K c)) hg h1 rfl hd) fun σ H Q q => sim_c (d := .cls c) (fun _ => rfl) q
    · cases h
    · split at h
      · rename_i b2
        split at h
        · rename_i T eT
          cases h
          obtain ⟨h1, h2⟩ := tyF_ok eT
          exact PEimp (pe_bltn (v := .ty T) hg (g.blt y b2) h1 rfl h2 hd) fun σ H Q q => sim_c (d := .ty T) (fun _ => rfl) q
        · cases h
      · cases h
  · cases h
theorem cName_ok {y : Str} {m : EM} {pos : Pos} (g : Good G X W x) (h : cName G y = some m) : PE X (.Name y pos) (rd X.K W x m) := by
  unfold cName at h
  split at h
  · rename_i b
    obtain ⟨d1, d2⟩ := noDbg_ok b
    split at h
    · rename_i i e
      split at h
      · rename_i v
        cases h
        exact PEimp (pe_var (by rw [g.hN]; exact ixOf_get e) (visG g v) d1 d2) fun σ H Q q => sim_var q
      · exact cGlob_ok g d1 h
    · exact cGlob_ok g d1 h
  · cases h
/-! ### arguments -/
def cA (c : Cp) (G : Gm) : List Expr → Option (List EM)
  | [] => some []
  | e :: es => if noStar e then match c.e G e, cA c G es with
    | some m, some ms => some (m :: ms)
    | _, _ => none else none
theorem cA_ok (S : Snd c) (g : Good G X W x) : ∀ {es : List Expr} {ms : List EM}, cA c G es = some ms → PA X es (rdA X.K W x (aList ms)) ∧ es.all noStar = true ∧ ms.length = es.length
  | [], ms, h => by
    cases h
    exact ⟨PAimp pa_nil fun σ H Q q => sim_nil q, rfl, rfl⟩
  | e :: es, ms, h => by
    unfold cA at h
    split at h
    · rename_i b
      split at h
      · rename_i m ms' e1 e2
        cases h
        obtain ⟨h1, h2, h3⟩ := cA_ok S g e2
        exact ⟨PAimp (pa_cons (S.e g e1) h1 (star_cons b)) fun σ H Q q => sim_cons q, by rw [List.all_cons, b, h2]; rfl, by simp [h3]⟩
      · cases h
    · cases h
/-! ### targets -/
def locB (G : Gm) (y : Str) : Bool := match G.sc.names.lookup y with
  | some .local => true
  | some .cell => G.fn y
  | _ => false
theorem locB_ok {y : Str} (g : Good G X W x) (h : locB G y = true) : Loc X.env.scope y ∧ (X.fn y = true ∨ X.env.scope.names.lookup y = some .local) := by
  rw [g.hsc]
  unfold locB at h
  split at h
  · rename_i e; exact ⟨.inl e, .inr e⟩
  · rename_i e; exact ⟨.inr e, .inl (g.fn y h)⟩
  · cases h
def cGs (c : Cp) (G : Gm) : List Expr → Option (GFs × List Nat)
  | [] => some (gsNil, [])
  | e :: es => if noStar e then match c.g G e, cGs c G es with
    | some (m, sl), some (ms, sls) => some (gsCons m ms, sl ++ sls)
    | _, _ => none else none
theorem each_cons {e : Expr} {es : List Expr} {env : PySem.Env} (h : noStar e = true) : assignEach (e :: es) env = (false, assign e env) :: assignEach es env := by
  cases e <;> first | rfl | cases h
theorem each_len {env : PySem.Env} : ∀ {es : List Expr}, es.all noStar = true → (assignEach es env).length = es.length ∧ (assignEach es env).findIdx? (·.1) = none
  | [], _ => ⟨rfl, rfl⟩
  | e :: es, h => by
    rw [List.all_cons, Bool.and_eq_true] at h
    obtain ⟨h1, h2⟩ := each_len (env := env) h.2
    rw [each_cons h.1]
    refine ⟨by simp [h1], ?_⟩
    rw [List.findIdx?_cons, h2]
    rfl
theorem cGs_ok (S : Snd c) (g : Good G X W x) : ∀ {es : List Expr} {ms : GFs} {sl : List Nat}, cGs c G es = some (ms, sl) → PGs X es (rdGs X.K x sl ms) ∧ es.all noStar = true
  | [], ms, sl, h => by
    cases h
    exact ⟨PGsimp pgs_nil fun v σ H Q q => simG_nil q, rfl⟩
  | e :: es, ms, sl, h => by
    unfold cGs at h
    split at h
    · rename_i b
      split at h
      · rename_i m sl1 ms' sls e1 e2
        cases h
        obtain ⟨h1, h2⟩ := cGs_ok S g e2
        refine ⟨PGsimp (pgs_cons (S.g g e1) h1 (by rw [each_cons b]; rfl)) fun v σ H Q q => simG_cons q, by rw [List.all_cons, b, h2]; rfl⟩
      · cases h
    · cases h
def stepG (c : Cp) (G : Gm) : Expr → Option (GF × List Nat)
  | .Name y _ => match ixOf G.N y with
    | some i => if locB G y then some (gVar i, [i]) else none
    | none => none
  | .Tuple es _ _ => if G.calm then match cGs c G es with
    | some (gs, sl) => some (gTupD es.length gs, sl)
    | none => none else none
  | .Subscript o i _ => if noSlice i then match c.e G o, c.e G i with
    | some mo, some mi => some (gSubD mo mi, [])
    | _, _ => none else none
  | _ => none
theorem asg_sub {o i : Expr} {pos : Pos} {env : PySem.Env} (h : noSlice i = true) : ∀ v, assign (.Subscript o i pos) env v = (do
      let ov ← holding [v] (eval o env)
      let iv ← holding [v, ov] (eval i env)
      standAt pos
      holding [v, ov, iv] (setItem ov iv v)
      release [v, ov, iv] []) := by
  intro v
  cases i <;> first | rfl | cases h
theorem stepG_ok (S : Snd c) (g : Good G X W x) {e : Expr} {m : GF} {sl : List Nat} (h : stepG c G e = some (m, sl)) : PG X e (rdG X.K x sl m) := by
  unfold stepG at h
  split at h
  · split at h
    · rename_i i e1
      split at h
      · rename_i b
        cases h
        obtain ⟨h1, h2⟩ := locB_ok g b
        exact PGimp (pg_name (by rw [g.hN]; exact g.nd) (by rw [g.hN]; exact ixOf_get e1) h1 h2) fun v σ H Q q => simG_var q
      · cases h
    · cases h
  · split at h
    · rename_i b
      split at h
      · rename_i gs sl' e1
        cases h
        obtain ⟨h1, h2⟩ := cGs_ok S g e1
        obtain ⟨l1, l2⟩ := each_len (env := X.env) h2
        exact PGimp (PGor (pg_tup (g.calm b) h1 l1 l2) (pg_unl (g.calm b) h1 l1 l2)) fun v σ H Q q => simG_tup q
      · cases h
    · cases h
  · split at h
    · rename_i b
      split at h
      · rename_i mo mi e1 e2
        cases h
        exact PGimp (pg_sub (S.e g e1) (S.e g e2) (set_any (by have := g.un; omega)) (asg_sub b)) fun v σ H Q q => sim_gsub q
      · cases h
    · cases h
  · cases h
/-! ### what is walked -/
theorem pi_anyV {tg l : Expr} {tl : TE} (hl : PE X l tl) : PI X tg l (iAny X.K tl) := by
  refine ⟨fun pins s σ H R I h => ?_⟩
  refine thn (hl.run pins s σ H _ I h) fun v s1 ⟨x, H1, I1, r1, q1⟩ => ?_
  rcases q1 with ⟨a, e, ⟨xs, hq⟩, q⟩ | ⟨a, e, ⟨xs, hq⟩, q⟩ | ⟨z, e, q⟩
  · subst e
    cases r1
    obtain ⟨its, rv, p, hz⟩ := I1.list hq
    refine wpAny_pyIter_list p.isList (pi_one (tk := s1.toks) I1 _ (turn_list a _) ⟨_, Heap.get?_push_size _ rfl, rfl, rfl⟩ q)
  · subst e
    cases r1
    obtain ⟨its, rv, p, hz⟩ := I1.tuple hq
    refine wpAny_pyIter_tuple (show s1.heap.IsTuple a its.toArray from p) (pi_one (tk := s1.toks) I1 _ (turn_tuple a _) ⟨_, Heap.get?_push_size _ rfl, rfl, rfl⟩ q)
  · subst e
    obtain ⟨t, rfl⟩ := r1
    cases ha : z.cps.all (· < 128)
    · exact wpAny_pyIter_wide ha (pi_one (tk := s1.toks) I1 _ (turn_str _ z t "str_iterator" (.inr rfl)) ⟨_, Heap.get?_push_size _ rfl, rfl, rfl⟩ q)
    · exact wpAny_pyIter_ascii ha (pi_one (tk := s1.toks) I1 _ (turn_str _ z t "str_ascii_iterator" (.inl rfl)) ⟨_, Heap.get?_push_size _ rfl, rfl, rfl⟩ q)
def isTupE : Expr → Bool
  | .Tuple _ _ _ => true
  | _ => false
/-- the four makers of iterators -/
def cIter (c : Cp) (G : Gm) (tg : Expr) (f : Str) (args : List Expr) : Option IM :=
  if glB G.sc f && G.blt f then match cA c G args with
    | some ms => if f = "range" then (match args with
        | [_] => some (iRange ms)
        | [_, _] => some (iRange ms)
        | _ => none)
      else if f = "enumerate" then (if isTupE tg then match args with
        | [_] => some (iEnumD ms)
        | _ => none else none)
      else if f = "zip" then (if isTupE tg then match args with
        | [_, _] => some (iZipD ms)
        | _ => none else none)
      else if f = "reversed" then (match args with
        | [_] => some (iRevD ms)
        | _ => none)
      else none
    | none => none else none
theorem cIter_ok (S : Snd c) (g : Good G X W x) {tg : Expr} {f : Str} {args : List Expr} {p pos : Pos} {m : IM} (h : cIter c G tg f args = some m) : PI X tg (.Call (.Name f p) args [] pos) (rdI X.K W x m) := by
  unfold cIter at h
  split at h
  · rename_i b
    obtain ⟨b1, b2⟩ := Bool.and_eq_true_iff.mp b
    have hg := glB_ok g b1
    have hm := g.blt f b2
    split at h
    · rename_i ms e
      obtain ⟨ha, hst, hl⟩ := cA_ok S g e
      split at h
      · rename_i ef
        subst ef
        split at h
        · rename_i a
          cases h
          match ms, hl with
          | [m1], _ =>
            simp at hst
            exact PIimp (pi_range1 hg hm ha (star_cons hst)) fun σ H Q q => simI_range1 q
        · rename_i a a2
          cases h
          match ms, hl with
          | [m1, m2], _ =>
            simp at hst
            exact PIimp (pi_range2 hg hm ha (by rw [star_cons hst.1, star_cons hst.2]; rfl) (by rw [star_cons hst.2]; rfl)) fun σ H Q q => simI_range2 q
        · cases h
      split at h
      · rename_i ef
        subst ef
        split at h
        · rename_i bt
          split at h
          · rename_i a
            cases h
            match ms, hl with
            | [m1], _ =>
              simp at hst
              cases tg with
              | Tuple es k tp => exact PIimp (pi_or (pi_enum hg hm ha (star_cons hst)) (pi_enumT hg hm ha (star_cons hst))) fun σ H Q q => simI_enum q
              | _ => cases bt
          · cases h
        · cases h
      split at h
      · rename_i ef
        subst ef
        split at h
        · rename_i bt
          split at h
          · rename_i a a2
            cases h
            match ms, hl with
            | [m1, m2], _ =>
              simp at hst
              cases tg with
              | Tuple es k tp => exact PIimp (RZ.pi_zipA hg hm ha (star_cons hst.1) (star_any (by simp [hst.2]))) fun σ H Q q => simI_zip q
              | _ => cases bt
          · cases h
        · cases h
      split at h
      · rename_i ef
        subst ef
        split at h
        · rename_i a
          cases h
          match ms, hl with
          | [m1], _ =>
            simp at hst
            exact PIimp (pi_reversed hg hm ha (star_cons hst)) fun σ H Q q => simI_rev q
        · cases h
      · cases h
    · cases h
  · cases h
def cI (c : Cp) (G : Gm) (tg : Expr) : Expr → Option IM
  | .Call (.Name f p) args [] pos => match cIter c G tg f args with
    | some m => some m
    | none => (c.e G (.Call (.Name f p) args [] pos)).map iPlain
  | e => (c.e G e).map iPlain
theorem cI_ok (S : Snd c) (g : Good G X W x) {tg e : Expr} {m : IM} (h : cI c G tg e = some m) : PI X tg e (rdI X.K W x m) := by
  have plain : ∀ {e : Expr} {m : IM}, (c.e G e).map iPlain = some m → PI X tg e (rdI X.K W x m) := fun {e m} h => by
    obtain ⟨me, e1, rfl⟩ := map_some h
    exact PIimp (pi_anyV (S.e g e1)) fun σ H Q q => simI_plain q
  unfold cI at h
  split at h
  · split at h
    · rename_i m' e1
      cases h
      exact cIter_ok S g e1
    · exact plain h
  · exact plain h
end
end EV
/-! ## A18 -/
set_option Elab.async false
set_option linter.all false
set_option maxRecDepth 100000
set_option maxHeartbeats 2000000
/-! Part 18: expressions and tests. -/
namespace EV
open PySem PySem.Spec
open PyProof.Rows hiding St
open L2 EV0
def Gm.blk (G : Gm) (scope : Scope) : Gm := { G with sc := relS scope G.sc, top := false, xs := none, fn := fun x => scope.names.lookup x == some .cell }
section
variable {c : Cp} {G : Gm} {X : Cx} {W : WX} {x : Xc}
theorem Good.blk (g : Good G X W x) (s : Shared) (H : Hp) (scope : Scope) (C : Addr) (cl : List (Str × Addr)) (fp : List Addr) : Good (G.blk scope) (X.blk s H scope (compEnvC scope cl C X.env) fp) W0 x where
  hN := g.hN
  nd := g.nd
  hsc := by
    show relS scope X.env.scope = relS scope G.sc
    rw [g.hsc]
  tk := takes_none5
  un := g.un
  calm := g.calm
  top := fun h => nomatch h
  fn := fun y h => h
  gl := fun y k h => g.gl y k h
  blt := g.blt
  suite := fun i h => nomatch h
  tabs := ⟨g.tabs.ex, g.tabs.kt, g.tabs.xok⟩
/-! ### comprehensions -/
def ownOf (N : List Str) : List (Str × NameKind) → List (Str × Nat)
  | [] => []
  | (y, k) :: r => match k with
    | .local => (match ixOf N y with
      | some i => (y, i) :: ownOf N r
      | none => ownOf N r)
    | .cell => (match ixOf N y with
      | some i => (y, i) :: ownOf N r
      | none => ownOf N r)
    | _ => ownOf N r
def cIfs (c : Cp) (G : Gm) : List Expr → Option BM
  | [] => some bYes
  | [t] => c.t G t
  | _ => none
theorem cIfs_ok (S : Snd c) (g : Good G X W x) {es : List Expr} {m : BM} (h : cIfs c G es = some m) : PTs X es (rdB X.K W x m) := by
  match es, h with
  | [], h => cases h; exact PTsimp pts_nil fun σ H Q q => sim_yes q
  | [t], h => exact pts_one (S.t g h)
def subL (sl : List Nat) (own : List (Str × Nat)) : Bool := sl.all fun j => (own.map (·.2)).contains j
theorem subL_ok {sl : List Nat} {own : List (Str × Nat)} (h : subL sl own = true) : ∀ j ∈ sl, j ∈ own.map (·.2) := fun j hj => by
  have q := List.all_eq_true.mp h j hj
  simpa using q
def zeroB : Int → Bool
  | 0 => true
  | _ => false
noncomputable def cComp (c : Cp) (G : Gm) (elt : Expr) (gens : List Comprehension) (scope : Scope) (pos : Pos) : Option EM :=
  let own := ownOf G.N scope.names
  if G.calm && blkC G.N G.sc scope own then match gens with
    | [⟨tg, iter, ifs, 0⟩] => if noSet iter then match cI c G tg iter, c.g (G.blk scope) tg, cIfs c (G.blk scope) ifs, c.e (G.blk scope) elt with
      | some im, some (g, sl), some t, some e => if subL sl own then some (eComp (G.cells pos.line pos.col) im g t e (own.map (·.2))) else none
      | _, _, _, _ => none else none
    | [⟨tg, iter, ifs, 0⟩, ⟨tg1, iter1, ifs1, 0⟩] => if noSet iter && noSet iter1 then match cI c G tg iter, c.g (G.blk scope) tg, cIfs c (G.blk scope) ifs, cI c (G.blk scope) tg1 iter1, c.g (G.blk scope) tg1, cIfs c (G.blk scope) ifs1, c.e (G.blk scope) elt with
      | some im, some (g, sl), some t, some im1, some (g1, sl1), some t1, some e => if subL sl own && subL sl1 own then some (eComp2 (G.cells pos.line pos.col) im g t im1 g1 t1 e (own.map (·.2)) sl1) else none
      | _, _, _, _, _, _, _ => none else none
    | _ => none else none
/-- what a list comprehension's rules ask -/
theorem cComp_ok (S : Snd c) (g : Good G X W x) {elt : Expr} {gens : List Comprehension} {scope : Scope} {pos : Pos} {m : EM} (h : cComp c G elt gens scope pos = some m) : PE X (.ListComp elt gens scope pos) (rd X.K W x m) := by
  unfold cComp at h
  simp only at h
  split at h
  · rename_i b
    simp only [Bool.and_eq_true] at b
    obtain ⟨b1, b2⟩ := b
    have hc := g.calm b1
    have hN : X.N.Nodup := by rw [g.hN]; exact g.nd
    have ok : BlkOk X.N X.env.scope scope (ownOf G.N scope.names) := by
      rw [g.hN, g.hsc]
      exact blkOk_by b2
    split at h
    · rename_i tg iter ifs
      split at h
      · rename_i bs
        split at h
        · rename_i im g1 sl t e e1 e2 e3 e4
          split at h
          · rename_i bl
            cases h
            exact PEimp (pe_lc hc hN (cI_ok S g e1) ok (fun s H C cl fp => S.g (g.blk s H scope C cl fp) e2) (fun s H C cl fp => cIfs_ok S (g.blk s H scope C cl fp) e3) (fun s H C cl fp => S.e (g.blk s H scope C cl fp) e4) fun _ => folded_no bs)
              fun σ H Q q => sim_comp (subL_ok bl) q
          · cases h
        · cases h
      · cases h
    · rename_i tg iter ifs tg1 iter1 ifs1
      split at h
      · rename_i bs
        simp only [Bool.and_eq_true] at bs
        split at h
        · rename_i im g1 sl t im1 g2 sl1 t1 e e1 e2 e3 e4 e5 e6 e7
          split at h
          · rename_i bl
            simp only [Bool.and_eq_true] at bl
            cases h
            exact PEimp (pe_lc2 hc hN (cI_ok S g e1) ok (subL_ok bl.2) (fun s H C cl fp => S.g (g.blk s H scope C cl fp) e2) (fun s H C cl fp => cIfs_ok S (g.blk s H scope C cl fp) e3) (fun s H C cl fp => cI_ok S (g.blk s H scope C cl fp) e4)
              (fun s H C cl fp => S.g (g.blk s H scope C cl fp) e5) (fun s H C cl fp => cIfs_ok S (g.blk s H scope C cl fp) e6) (fun s H C cl fp => S.e (g.blk s H scope C cl fp) e7) (fun _ => folded_no bs.1) fun _ _ => folded_no bs.2)
              fun σ H Q q => sim_comp2 (subL_ok bl.1) (fun j hj => hj) q
          · cases h
        · cases h
      · cases h
    · cases h
  · cases h
/-! ### calls -/
def cCall (c : Cp) (G : Gm) (f : Str) (args : List Expr) (pos : Pos) : Option EM :=
  if noDbg f && glB G.sc f then match G.gl f with
    | some (.fn m) => (cA c G args).map (eApp m)
    | some _ => none
    | none => if G.blt f && G.calm then match bltF (G.cells pos.line pos.col) f args.length, cA c G args with
      | some (_, fn), some (m :: ms) => some (eApp fn (m :: ms))
      | _, _ => none else none else none
theorem cCall_ok (S : Snd c) (g : Good G X W x) {f : Str} {args : List Expr} {p pos : Pos} {m : EM} (h : cCall c G f args pos = some m) : PE X (.Call (.Name f p) args [] pos) (rd X.K W x m) := by
  unfold cCall at h
  split at h
  · rename_i b
    simp only [Bool.and_eq_true] at b
    have hd := (noDbg_ok b.1).1
    have hg := glB_ok g b.2
    split at h
    · rename_i fm e
      obtain ⟨ms, e1, rfl⟩ := map_some h
      obtain ⟨ha, hst, hl⟩ := cA_ok S g e1
      obtain ⟨fa, k, h1, h2, h3, h4⟩ := g.gl f _ e
      match args, ms, ha, hst, hl with
      | [], [], ha, _, _ =>
        refine PEimp (pe_callR0 (E := WE W) h3 h4 hg h1 h2 (fun σ => passAt g.tk σ) hd) fun σ H Q q => ?_
        have z := sim_call q
        obtain ⟨w, env, S, r1, r2, r3, z⟩ := z
        subst r1
        exact z w (Le.refl _) r2 [] rfl
      | e :: es, _, ha, hst, _ =>
        rw [List.all_cons, Bool.and_eq_true] at hst
        exact PEimp (pe_callR (E := WE W) h3 h4 hg h1 h2 (fun σ => passAt g.tk σ) ha hd (star_cons hst.1) (star_any hst.2)) fun σ H Q q => sim_call q
    · cases h
    · split at h
      · rename_i b2
        simp only [Bool.and_eq_true] at b2
        have hm := g.blt f b2.1
        split at h
        · rename_i v fn m1 ms e1 e2
          cases h
          obtain ⟨ha, hst, hl⟩ := cA_ok S g e2
          have B := bltF_ok e1
          obtain ⟨r, h1, h2⟩ := B.run X (g.calm b2.2) g.un
          match args, ha, hst, hl with
          | e :: es, ha, hst, _ =>
            rw [List.all_cons, Bool.and_eq_true] at hst
            rcases B.kind with ⟨id, rfl⟩ | ⟨T, rfl⟩
            · exact PEimp (pe_callB h1 hg hm B.boot ha B.ne hd (star_cons hst.1) (star_any hst.2)) fun σ H Q q => sim_app h2 q
            · exact PEimp (pe_callTy h1 hg hm B.boot ha B.ne hd (star_cons hst.1) (star_any hst.2)) fun σ H Q q => sim_app h2 q
        · cases h
      · cases h
  · cases h
/-- isinstance(e, C), e what the suite holds -/
def cIsX (G : Gm) (f : Str) (args : List Expr) : Option EM := match args with
  | [.Name e _, .Name k _] => if f = "isinstance" then match G.xs with
    | some i => if noDbg f && glB G.sc f && G.blt f && visB G.sc e && noDbg e && noDbg k && glB G.sc k && decide (ixOf G.N e = some i) then match G.gl k with
      | some (.exc c' _) => some (eIsX G.kt i c')
      | some (.cls c') => some (eIsX G.kt i c')
      | _ => none else none
    | none => none else none
  | _ => none
theorem cIsX_ok (g : Good G X W x) {f : Str} {args : List Expr} {p pos : Pos} {m : EM} (h : cIsX G f args = some m) : PE X (.Call (.Name f p) args [] pos) (rd X.K W x m) := by
  unfold cIsX at h
  split at h
  · rename_i e pe k pk
    split at h
    · rename_i ef
      subst ef
      split at h
      · rename_i i exs
        split at h
        · rename_i b
          simp only [Bool.and_eq_true, decide_eq_true_eq] at b
          obtain ⟨⟨⟨⟨⟨⟨⟨b1, b2⟩, b3⟩, b4⟩, b5⟩, b6⟩, b7⟩, b8⟩ := b
          obtain ⟨a, oe, cls, d, pn, X0, eX, hz, hf, rfl⟩ := g.suite i exs
          have hN : X.N[i]? = some e := by rw [g.hN]; exact ixOf_get b8
          have key : ∀ {c' : Str}, X.mg k = some (.ref (gaK X.K c')) → PE X (.Call (.Name "isinstance" p) [.Name e pe, .Name k pk] [] pos) (rd X.K W (some (i, a, cls, d)) (eIsX G.kt i c')) := fun {c'} hk => by
            have ha : PA X [.Name e pe, .Name k pk] (tCons (tVar i) (tCons (tC (.ref (gaK X.K c'))) tNil)) :=
              pa_cons (pe_var hN (visG g b4) (noDbg_ok b5).1 (noDbg_ok b5).2) (pa_cons (pe_glob (v := .ref (gaK X.K c')) (glB_ok g b7) hk rfl (noDbg_ok b6).1) pa_nil)
            have hcr : CallR X (.builtin "isinstance") (rIsE2 X.K a cls d) := by
              rw [eX]
              exact call_isE2 hz hf
            exact PEimp (pe_callB hcr (glB_ok g b2) (g.blt _ b3) (by boot_by_name) ha (by decide) (by decide) rfl rfl) fun σ H Q q => sim_isX g.tabs.kt q
          split at h
          · rename_i c' fs ek
            cases h
            obtain ⟨_, hk, _⟩ := g.gl k _ ek
            exact key hk
          · rename_i c' ek
            cases h
            exact key (g.gl k _ ek)
          · cases h
        · cases h
      · cases h
    · cases h
  · cases h
def lineB (a b : Pos) : Bool := a.endLine == b.line
def cMeth (c : Cp) (G : Gm) (o : Expr) (m : Str) (ap : Pos) (args : List Expr) (pos : Pos) : Option EM :=
  if plainO o && lineB ap pos && decide (args.length < 29) then
    if m = "get" then (match args with
      | [e] => if noStar e then (match c.e G o, c.e G e with
        | some mo, some me => some (eGet1 mo me)
        | _, _ => none) else none
      | [e, f] => if noStar e && noStar f then (match c.e G o, c.e G e, c.e G f with
        | some mo, some me, some mf => some (eGet2 mo me mf)
        | _, _, _ => none) else none
      | _ => none)
    else if (mthL m args.length).isSome || (mthT m args.length).isSome then (match c.e G o, cA c G args with
      | some mo, some ms => some (eMeth2 (mthL m args.length) (mthT m args.length) mo ms)
      | _, _ => none) else none else none
theorem cMeth_ok (S : Snd c) (g : Good G X W x) {o : Expr} {m : Str} {ap pos : Pos} {args : List Expr} {me : EM} (h : cMeth c G o m ap args pos = some me) : PE X (.Call (.Attribute o m ap) args [] pos) (rd X.K W x me) := by
  unfold cMeth at h
  split at h
  · rename_i b
    simp only [Bool.and_eq_true] at b
    obtain ⟨⟨b1, b2⟩, b3⟩ := b
    have hb : ∀ (nm : Str), attributeBase o nm X.env (eval o X.env) = eval o X.env := fun _ => base_of b1
    have hl : (ap.endLine == pos.line) = true := b2
    split at h
    · rename_i em
      subst em
      split at h
      · rename_i e
        split at h
        · rename_i bs
          split at h
          · rename_i mo m1 e1 e2
            cases h
            have fw := few_of (cpos := pos) (env := X.env) (e := e) (es := []) (by simp [bs]) (by simp)
            exact PEimp (pe_dget1 (by have := g.un; omega) (S.e g e1) (S.e g e2) ⟨hb _, fw, hl, by rw [star_cons bs]; rfl⟩) fun σ H Q q => sim_get1 q
          · cases h
        · cases h
      · rename_i e f
        split at h
        · rename_i bs
          simp only [Bool.and_eq_true] at bs
          split at h
          · rename_i mo m1 m2 e1 e2 e3
            cases h
            have fw := few_of (cpos := pos) (env := X.env) (e := e) (es := [f]) (by simp [bs.1, bs.2]) (by simp)
            exact PEimp (pe_dget2 (by have := g.un; omega) (S.e g e1) (S.e g e2) (S.e g e3) ⟨hb _, fw, hl, by rw [star_cons bs.1, star_cons bs.2]; rfl⟩) fun σ H Q q => sim_get2 q
          · cases h
        · cases h
      · cases h
    · split at h
      · rename_i bo
        split at h
        · rename_i mo ms e1 e2
          cases h
          obtain ⟨ha, hst, hln⟩ := cA_ok S g e2
          have go : ∀ {T : String} {f : FM}, MOk T m f → PE X (.Call (.Attribute o m ap) args [] pos) (rd X.K W x (eMeth T f mo ms)) := fun {T f} M => by
            obtain ⟨id, slot, hty, run⟩ := M.ex
            obtain ⟨r, h1, h2⟩ := run X g.un
            match args, ms, ha, hst, hln, b3 with
            | [], [], _, _, _, _ => exact PEimp (pe_xm0 M.pa slot hty h1 (S.e g e1) (hb _) hl) fun σ H Q q => sim_meth0 h2 q
            | e :: es, _, ha, hst, _, b3 =>
              have hst' := hst
              rw [List.all_cons, Bool.and_eq_true] at hst'
              exact PEimp (pe_xm M.pa slot hty h1 (S.e g e1) ha (hb _) (few_of hst b3) hl (star_cons hst'.1) (star_any hst'.2)) fun σ H Q q => sim_meth h2 q
          have h0 : (mthL m args.length).isSome = true ∨ (mthT m args.length).isSome = true := by simpa using bo
          refine ⟨fun pins s σ H Q I q => ?_⟩
          rcases sim_meth2 h0 q with ⟨f, ef, q⟩ | ⟨f, ef, q⟩
          · exact (go (mthL_ok ef)).run pins s σ H Q I q
          · exact (go (mthT_ok ef)).run pins s σ H Q I q
        · cases h
      · cases h
  · cases h
end
end EV
/-! ## A19 -/
set_option Elab.async false
set_option linter.all false
set_option maxRecDepth 100000
set_option maxHeartbeats 2000000
/-! Part 19: expressions and tests, one step of the text. -/
namespace EV
open PySem PySem.Spec
open PyProof.Rows hiding St
open L2 EV0
/-! ### [..] * n, a + b as cells -/
def fMulC : F2 := fun a b S => match b with
  | .int k => match asLT S a with
    | some xs => if k < 4294967296 ∧ -4294967296 < k ∧ xs.length * k.toNat ≤ sizeLine then mkL true (List.replicate k.toNat xs).flatten S else .no
    | none => .no
  | _ => .no
theorem opl_mulC {K : PySem.W.Frag} : OpL K rMulR fMulC := fun W σ w S a b x y Q s ra rb h => by
  cases b with
  | int k =>
    cases (show y = _ from rb)
    simp only [fMulC] at h
    cases e1 : asLT S a with
    | none => simp only [e1] at h; exact h.elim
    | some xs =>
      simp only [e1] at h
      by_cases hz : k < 4294967296 ∧ -4294967296 < k ∧ xs.length * k.toNat ≤ sizeLine
      · rw [if_pos hz] at h
        obtain ⟨p, vs, rfl, h1, h2⟩ := asLT_of s e1 ra
        refine .inr ⟨p, k, vs, rfl, rfl, h1, by omega, by omega, by rw [← h2.length]; exact hz.2.2, fun l hl => ?_⟩
        refine post_mkL (c := true) s hl (h2.rep k.toNat) ?_ h
        have e := (h2.rep k.toNat).length
        rw [← e, List.length_flatten, List.map_replicate, List.sum_replicate_nat, Nat.mul_comm]
        exact hz.2.2
      · rw [if_neg hz] at h
        exact h.elim
  | _ => exact h.elim
def fAddC : F2 := fun a b S => match asLT S a, asLT S b with
  | some xs, some ys => if xs.length + ys.length ≤ sizeLine then mkL true (xs ++ ys) S else .no
  | _, _ => .no
theorem opl_addC {K : PySem.W.Frag} : OpL K (rAdd K) fAddC := fun W σ w S a b x y Q s ra rb h => by
  unfold fAddC at h
  cases e1 : asLT S a with
  | none => simp only [e1] at h; exact h.elim
  | some xs =>
    cases e2 : asLT S b with
    | none => simp only [e1, e2] at h; exact h.elim
    | some ys =>
      simp only [e1, e2] at h
      by_cases hz : xs.length + ys.length ≤ sizeLine
      · rw [if_pos hz] at h
        obtain ⟨p, vs, rfl, h1, h2⟩ := asLT_of s e1 ra
        obtain ⟨q, us, rfl, k1, k2⟩ := asLT_of s e2 rb
        refine .inr (.inr (.inr ⟨p, q, vs, us, rfl, rfl, h1, k1, by rw [← h2.length, ← k2.length]; exact hz, fun l hl => ?_⟩))
        exact post_mkL (c := true) s hl (h2.append k2) (by rw [List.length_append, ← h2.length, ← k2.length]; exact hz) h
      · rw [if_neg hz] at h
        exact h.elim
/-- the operator at a place: a new list is a cell there (c) -/
def binC (c : Bool) (op : Operator) : Option F2 := match c with
  | false => binF op
  | true => match op with
    | .Mult => some fMulC
    | .Add => some fAddC
    | _ => none
theorem binC_ok {c : Bool} {op : Operator} {f : F2} (h : binC c op = some f) (X : Cx) : ∃ r, OpR X (binaryOp op) r ∧ OpL X.K r f := by
  cases c with
  | false => exact (binF_ok h).ex X
  | true =>
    cases op with
    | Mult => cases h; exact ⟨_, op_mulR, opl_mulC⟩
    | Add => cases h; exact ⟨_, op_addR, opl_addC⟩
    | _ => cases h
def cConst : Const → Option EM
  | .int i => some (eC (.int i))
  | .bool b => some (eC (.bl b))
  | .none => some (eC .non)
  | .str s => some (eC (.str s))
  | _ => none
def cO (c : Cp) (G : Gm) : Option Expr → Option OM
  | none => some oNone
  | some e => (c.e G e).map oSome
def cPairs (c : Cp) (G : Gm) : List (Option Expr) → List Expr → Option (List (EM × EM))
  | [], [] => some []
  | some k :: ks, v :: vs => match c.e G k, c.e G v, cPairs c G ks vs with
    | some mk, some mv, some r => some ((mk, mv) :: r)
    | _, _, _ => none
  | _, _ => none
/-- e.f, e what the suite holds -/
def cXf (G : Gm) (e f : Str) : Option EM := match G.xs with
  | some i => if visB G.sc e && noDbg e && decide (ixOf G.N e = some i) then some (eXf G.xok i f) else none
  | none => none
noncomputable def stepE (c : Cp) (G : Gm) : Expr → Option EM
  | .Name x _ => cName G x
  | .Constant k _ _ => cConst k
  | .BinOp a op b p => match binC (G.tks p.line p.col) op, c.e G a, c.e G b with
    | some f, some x, some y => some (eBin f x y)
    | _, _, _ => none
  | .UnaryOp .Not a _ => (c.e G a).map (eUn fNot)
  | .UnaryOp .USub a _ => (c.e G a).map (eUn fNeg)
  | .BoolOp _ [a] _ => c.e G a
  | .BoolOp .Or (a :: b :: r) p => match c.e G a, c.e G (.BoolOp .Or (b :: r) p) with
    | some x, some y => some (eOr x y)
    | _, _ => none
  | .BoolOp .And (a :: b :: r) p => match c.e G a, c.e G (.BoolOp .And (b :: r) p) with
    | some x, some y => some (eAnd x y)
    | _, _ => none
  | .Compare a [op] [b] _ => if noSet b then match c.e G a, c.e G b with
    | some x, some y => some (eBin (cmpF op) x y)
    | _, _ => none else none
  | .Compare a [op, op'] [b, d] _ => if noSet d then match c.e G a, c.e G b, c.e G d with
    | some x, some y, some z => some (eChain (cmpF op) (cmpF op') x y z)
    | _, _, _ => none else none
  | .IfExp q a b _ => match c.t G q, c.e G a, c.e G b with
    | some t, some x, some y => some (eIf t x y)
    | _, _, _ => none
  | .Tuple es _ _ => match cA c G es with
    | some ms => if ms.length ≤ 1000 then some (eTup ms) else none
    | none => none
  | .List es p => match cA c G es with
    | some ms => if ms.length ≤ 1000 then some (eLst (G.cells p.line p.col) ms) else none
    | none => none
  | .Subscript a (.Slice lo hi none _) _ => match c.e G a, cO c G lo, cO c G hi with
    | some x, some l, some u => some (eSl x l u)
    | _, _, _ => none
  | .Subscript a b _ => if noSlice b then match c.e G a, c.e G b with
    | some x, some y => some (eBin fIx x y)
    | _, _ => none else none
  | .Call (.Name f _) args [] pos => match cIsX G f args with
    | some m => some m
    | none => cCall c G f args pos
  | .Call (.Attribute o m ap) args [] pos => cMeth c G o m ap args pos
  | .Attribute (.Name e _) f _ => cXf G e f
  | .ListComp elt gens scope pos => cComp c G elt gens scope pos
  | .Dict [] [] p => some (eDict0 (G.cells p.line p.col) (G.tks p.line p.col))
  | .Dict (k :: ks) vs p => match cPairs c G (k :: ks) vs with
    | some ps => if ps.length ≤ 15 then some (eDictN (G.cells p.line p.col) ps) else none
    | none => none
  | _ => none
section
variable {c : Cp} {G : Gm} {X : Cx} {W : WX} {x : Xc}
theorem cConst_ok {k : Const} {m : EM} {n : Nat} {pos : Pos} (h : cConst k = some m) : PE X (.Constant k n pos) (rd X.K W x m) := by
  cases k with
  | int i => cases h; exact PEimp pe_int fun σ H Q q => sim_c (d := .int i) (fun _ => rfl) q
  | bool b => cases h; exact PEimp pe_bl fun σ H Q q => sim_c (d := .bl b) (fun _ => rfl) q
  | none => cases h; exact PEimp pe_non fun σ H Q q => sim_c (d := .non) (fun _ => rfl) q
  | str s => cases h; exact PEimp pe_str fun σ H Q q => sim_c (d := .str s) (fun _ => rfl) q
  | _ => cases h
theorem POimp {e : Option Expr} {t t' : TO} (h : PO X e t) (k : ∀ σ H Q, t' σ H Q → t σ H Q) : PO X e t' := ⟨fun pins s σ H Q I q => h.run pins s σ H Q I (k σ H Q q)⟩
theorem cO_ok (S : Snd c) (g : Good G X W x) {e : Option Expr} {m : OM} (h : cO c G e = some m) : PO X e (rdO X.K W x m) := by
  cases e with
  | none => cases h; exact POimp po_none fun σ H Q q => sim_onone q
  | some e =>
    obtain ⟨me, e1, rfl⟩ := map_some h
    exact POimp (po_some (S.e g e1)) fun σ H Q q => sim_osome q
theorem cPairs_ok (S : Snd c) (g : Good G X W x) {pos : Pos} : ∀ {ks : List (Option Expr)} {vs : List Expr} {ps : List (EM × EM)}, cPairs c G ks vs = some ps →
    PPs X pos ks vs (ps.map fun q => (rd X.K W x q.1, rd X.K W x q.2)) ∧ ks.all (·.isSome) = true ∧ ks.length = vs.length ∧ ks.length = ps.length
  | [], [], ps, h => by cases h; exact ⟨pps_nil, rfl, rfl, rfl⟩
  | some k :: ks, v :: vs, ps, h => by
    unfold cPairs at h
    split at h
    · rename_i mk mv r e1 e2 e3
      cases h
      obtain ⟨h1, h2, h3, h4⟩ := cPairs_ok S g (pos := pos) e3
      exact ⟨pps_cons (S.e g e1) (S.e g e2) h1, by simpa using h2, by simp [h3], by simp [h4]⟩
    · cases h
  | [], _ :: _, _, h => by cases h
  | none :: _, _, _, h => by cases h
  | some _ :: _, [], _, h => by cases h
theorem cXf_ok (g : Good G X W x) {e f : Str} {p pos : Pos} {m : EM} (h : cXf G e f = some m) : PE X (.Attribute (.Name e p) f pos) (rd X.K W x m) := by
  unfold cXf at h
  split at h
  · rename_i i exs
    split at h
    · rename_i b
      cases h
      simp only [Bool.and_eq_true, decide_eq_true_eq] at b
      obtain ⟨⟨b1, b2⟩, b3⟩ := b
      have gv := visG g b1
      have hN : X.N[i]? = some e := by rw [g.hN]; exact ixOf_get b3
      have tb := g.tabs.xok
      obtain ⟨a, oe, cls, d, pn, X0, eX, hz, hf, rfl⟩ := g.suite i exs
      subst eX
      exact PEimp (pe_xfA hz hf (pe_var hN gv (noDbg_ok b2).1 (noDbg_ok b2).2) rfl) fun σ H Q q => sim_xf tb q
    · cases h
  · cases h
theorem stepE_ok (S : Snd c) (g : Good G X W x) {e : Expr} {m : EM} (h : stepE c G e = some m) : PE X e (rd X.K W x m) := by
  unfold stepE at h
  split at h
  · exact cName_ok g h
  · exact cConst_ok h
  · split at h
    · rename_i f x' y e1 e2 e3
      cases h
      obtain ⟨r, h1, h2⟩ := binC_ok e1 X
      exact PEimp (pe_op h1 (S.e g e2) (S.e g e3)) fun σ H Q q => sim_bin h2 q
    · cases h
  · obtain ⟨me, e1, rfl⟩ := map_some h
    exact PEimp (pe_notT (S.e g e1)) fun σ H Q q => sim_not q
  · obtain ⟨me, e1, rfl⟩ := map_some h
    exact PEimp (pe_un un_neg (S.e g e1)) fun σ H Q q => sim_un opu_neg q
  · exact pe_one (S.e g h)
  · split at h
    · rename_i e1 e2
      cases h
      exact PEimp (pe_orT (S.e g e1) (S.e g e2)) fun σ H Q q => sim_or q
    · cases h
  · split at h
    · rename_i e1 e2
      cases h
      exact PEimp (pe_andT (S.e g e1) (S.e g e2)) fun σ H Q q => sim_and q
    · cases h
  · rename_i a op b p
    split at h
    · rename_i bs
      split at h
      · rename_i e1 e2
        cases h
        obtain ⟨r, h1, h2⟩ := cmpF_ok (X := X) g.un op
        exact PEimp (pe_cmpR h1 (S.e g e1) (S.e g e2) (behind_no bs)) fun σ H Q q => sim_bin h2 q
      · cases h
    · cases h
  · rename_i a op op' b d p
    split at h
    · rename_i bs
      split at h
      · rename_i e1 e2 e3
        cases h
        obtain ⟨r, h1, h2⟩ := cmpF_ok (X := X) g.un op
        obtain ⟨r', h3, h4⟩ := cmpF_ok (X := X) g.un op'
        exact PEimp (pe_chain h1 h3 (S.e g e1) (S.e g e2) (S.e g e3) (behind_no bs)) fun σ H Q q => sim_chain h2 h4 q
      · cases h
    · cases h
  · split at h
    · rename_i e1 e2 e3
      cases h
      exact PEimp (pe_ifExp (S.t g e1) (S.e g e2) (S.e g e3)) fun σ H Q q => sim_if q
    · cases h
  · split at h
    · rename_i ms e1
      split at h
      · rename_i hl
        cases h
        exact PEimp (pe_tup (cA_ok S g e1).1) fun σ H Q q => sim_tup hl q
      · cases h
    · cases h
  · split at h
    · rename_i ms e1
      split at h
      · rename_i hl
        cases h
        exact PEimp (pe_lst (cA_ok S g e1).1) fun σ H Q q => sim_lst hl q
      · cases h
    · cases h
  · split at h
    · rename_i e1 e2 e3
      cases h
      exact PEimp (pe_slice sl_any (S.e g e1) (cO_ok S g e2) (cO_ok S g e3)) fun σ H Q q => sim_sl q
    · cases h
  · split at h
    · rename_i bs
      split at h
      · rename_i e1 e2
        cases h
        exact PEimp (pe_ix (ix_any (by have := g.un; omega)) (S.e g e1) (S.e g e2) (plainIx_of bs)) fun σ H Q q => sim_bin opl_ix q
      · cases h
    · cases h
  · split at h
    · rename_i m' e1
      cases h
      exact cIsX_ok g e1
    · exact cCall_ok S g h
  · exact cMeth_ok S g h
  · exact cXf_ok g h
  · exact cComp_ok S g h
  · rename_i p
    cases h
    cases G.tks p.line p.col with
    | false => exact PEimp pe_dnewK fun σ H Q q => sim_dict0K q
    | true => exact PEimp pe_dnewT fun σ H Q q => sim_dict0T q
  · rename_i k ks vs p
    split at h
    · rename_i ps e1
      split at h
      · rename_i hl
        cases h
        obtain ⟨h1, h2, h3, h4⟩ := cPairs_ok S g (pos := p) e1
        exact PEimp (pe_disp h1 h2 h3 (by simp) (by omega)) fun σ H Q q => sim_dictN hl q
      · cases h
    · cases h
  · cases h
/-! ### tests -/
def cBool (c : Cp) (G : Gm) (op : BoolOp) : List Expr → Option BM
  | [] => none
  | [a] => c.t G a
  | a :: b :: r => match op, c.t G a, cBool c G op (b :: r) with
    | .And, some x, some y => some (bAnd x y)
    | .Or, some x, some y => some (bOr x y)
    | _, _, _ => none
theorem cBool_ok (S : Snd c) (g : Good G X W x) {op : BoolOp} {p : Pos} : ∀ {es : List Expr} {m : BM}, cBool c G op es = some m → PW X (.BoolOp op es p) (rdB X.K W x m)
  | [], _, h => by cases h
  | [a], m, h => by
    cases op with
    | And => exact pw_and1 (S.t g h)
    | Or => exact pw_or1 (S.t g h)
  | a :: b :: r, m, h => by
    unfold cBool at h
    split at h
    · rename_i e1 e2
      cases h
      exact PWimp (pw_and (S.t g e1) (cBool_ok S g e2)) fun σ H Q q => sim_band q
    · rename_i e1 e2
      cases h
      exact PWimp (pw_or (S.t g e1) (cBool_ok S g e2)) fun σ H Q q => sim_bor q
    · cases h
def stepT (c : Cp) (G : Gm) : Expr → Option BM
  | .Compare a [op] [b] _ => if noSet b then match c.e G a, c.e G b with
    | some x, some y => some (bOf (eBin (cmpF op) x y))
    | _, _ => none else none
  | .Compare a [op, op'] [b, d] _ => if noSet d then match c.e G a, c.e G b, c.e G d with
    | some x, some y, some z => some (bOf (eChain (cmpF op) (cmpF op') x y z))
    | _, _, _ => none else none
  | .BoolOp op es _ => cBool c G op es
  | .UnaryOp .Not a _ => (c.t G a).map bNot
  | e => if plainT e then (c.e G e).map bTru else none
theorem stepT_ok (S : Snd c) (g : Good G X W x) {e : Expr} {m : BM} (h : stepT c G e = some m) : PT X e (rdB X.K W x m) := by
  unfold stepT at h
  split at h
  · rename_i a op b p
    split at h
    · rename_i bs
      split at h
      · rename_i e1 e2
        cases h
        obtain ⟨r, h1, h2⟩ := cmpF_ok (X := X) g.un op
        exact PTimp (pt_cmpR h1 (S.e g e1) (S.e g e2) (behind_no bs)) fun σ H Q q => sim_test (fun Q q => sim_bin h2 q) q
      · cases h
    · cases h
  · rename_i a op op' b d p
    split at h
    · rename_i bs
      split at h
      · rename_i e1 e2 e3
        cases h
        obtain ⟨r, h1, h2⟩ := cmpF_ok (X := X) g.un op
        obtain ⟨r', h3, h4⟩ := cmpF_ok (X := X) g.un op'
        exact PTimp (pt_chain h1 h3 (S.e g e1) (S.e g e2) (S.e g e3) (behind_no bs)) fun σ H Q q => sim_test (fun Q q => sim_chain h2 h4 q) q
      · cases h
    · cases h
  · exact (cBool_ok S g h).pt
  · obtain ⟨me, e1, rfl⟩ := map_some h
    exact PTimp (pt_not (S.t g e1)) fun σ H Q q => sim_bnot q
  · split at h
    · rename_i b
      obtain ⟨me, e1, rfl⟩ := map_some h
      exact PTimp (pt_truth (S.e g e1) (plainT_of b)) fun σ H Q q => sim_tru q
    · cases h
end
end EV
/-! ## A20 -/
set_option Elab.async false
set_option linter.all false
set_option maxRecDepth 100000
set_option maxHeartbeats 2000000
/-! Part 20: statements; the whole. -/
namespace EV
open PySem PySem.Spec
open PyProof.Rows hiding St
open L2 EV0
/-! ### name op= e -/
def ipF : Operator → Option F2
  | .Add => some fun a b S => match a, b with
    | .int i, .int j => .ok (.int (i + j)) S
    | .str x, .str y => if x.length + y.length ≤ sizeLine then .ok (.str (x ++ y)) S else .no
    | _, _ => .no
  | .Sub => some fSub
  | .BitAnd => some fAnd
  | .BitOr => some fOr
  | .BitXor => some fXor
  | _ => none
theorem ipF_ok {op : Operator} {f : F2} (h : ipF op = some f) (X : Cx) : ∃ r, PIp X op r ∧ OpL X.K r f := by
  cases op with
  | Add =>
    cases h
    refine ⟨rOr (rI0 fun i j => .int (i + j)) rAddS, OpR.or iop_add (show OpR X (inplaceOp .Add) rAddS from iop_add_str), fun W σ w S a b x y Q s ra rb h => ?_⟩
    cases a with
    | int i =>
      cases b with
      | int j =>
        cases (show x = _ from ra)
        cases (show y = _ from rb)
        exact .inl ⟨i, j, rfl, rfl, post_at s h rfl⟩
      | _ => exact h.elim
    | str z =>
      cases b with
      | str u =>
        cases (show x = _ from ra)
        cases (show y = _ from rb)
        simp only at h
        by_cases hz : z.length + u.length ≤ sizeLine
        · rw [if_pos hz] at h
          exact .inr ⟨z, u, rfl, rfl, hz, post_at s h rfl⟩
        · rw [if_neg hz] at h
          exact h.elim
      | _ => exact h.elim
    | _ => exact h.elim
  | Sub => cases h; exact ⟨_, iop_sub, opl_I0 fun _ _ _ => rfl⟩
  | BitAnd => cases h; exact ⟨_, iop_and, opl_I0 fun _ _ _ => rfl⟩
  | BitOr => cases h; exact ⟨_, iop_or, opl_I0 fun _ _ _ => rfl⟩
  | BitXor => cases h; exact ⟨_, iop_xor, opl_I0 fun _ _ _ => rfl⟩
  | _ => cases h
def sAug (i : Nat) (f : F2) (m : EM) : SM := fun env S => match env[i]? with
  | some (some (.exn _ _)) => .no
  | some (some d) => (m env S).then env fun e S1 => (f d e S1).then env fun z S2 => if i < env.length then .nx (env.set i (some z)) S2 else .no
  | _ => .no
section
variable {K : PySem.W.Frag} {W : WX} {x : Xc} {D : Ends} {σ : L2.St} {H : Hp}
theorem simS_aug {i : Nat} {f : F2} {m : EM} {r : R2} (ho : OpL K r f) (h : rdS K W x (sAug i f m) D σ H) : tAug i (rd K W x m) r D σ H := by
  obtain ⟨w, env, S, rfl, s, er, h⟩ := h
  unfold sAug at h
  cases e : env[i]? with
  | none => rw [e] at h; exact h.elim
  | some o =>
    cases o with
    | none => rw [e] at h; exact h.elim
    | some d =>
      obtain ⟨v, h1, h2⟩ := er.at_ i d e
      have go : Rep K w d v → PostS K W x w ((m env S).then env fun e S1 => (f d e S1).then env fun z S2 => if i < env.length then .nx (env.set i (some z)) S2 else .no) D → tAug i (rd K W x m) r D σ w.H := fun rv h => by
        refine ⟨v, h1, w, env, S, rfl, s, er, (PostS.then er h).mono fun b S1 w1 l1 s1 h1 u ru => ?_⟩
        refine ho W σ w1 S1 d b v u _ s1 (rep_le l1 _ _ rv) ru ((PostS.then (er.le l1) h1).mono fun z S2 w2 l2 s2 h2 y ry => ?_)
        by_cases hi : i < env.length
        · rw [if_pos hi] at h2
          exact h2 w2 _ (Le.refl _) s2 ((er.le (l1.trans l2)).set hi ry)
        · rw [if_neg hi] at h2
          exact h2.elim
      rw [e] at h
      rcases h2 with h2 | ⟨a, cls, dd, c, fs, _, k2, _⟩
      · cases d with
        | exn c fs => exact h2.elim
        | _ => exact go h2 h
      · rw [k2] at h
        exact h.elim
end
/-! ### what is in an except suite -/
def Gm.suite (G : Gm) (i : Option Nat) : Gm := { G with calm := false, top := false, xs := i, gl := fun y => match G.gl y with
  | some (.val d) => some (.val d)
  | some (.cls c) => some (.cls c)
  | some (.exc c _) => some (.cls c)
  | _ => none }
section
variable {c : Cp} {G : Gm} {X : Cx} {W : WX} {x : Xc}
theorem Good.tr (g : Good G X W none) (ht : X.stack = X.env :: X.outer ∧ X.env.frame = some X.env.locals) {W' : WX} {pn : List (Addr × Obj)} {xe : Value → Shared → Prop} (tk : Takes (X.tr pn xe) W') (hp : PassesOwn (model X.prog X.w) X.A X.env xe) (hx : G.xs = none) : Good G (X.tr pn xe) W' none where
  hN := g.hN
  nd := g.nd
  hsc := g.hsc
  tk := tk
  un := g.un
  calm := g.calm
  top := fun _ => ⟨ht.1, ht.2, hp, rfl⟩
  fn := g.fn
  gl := fun y k h => g.gl y k h
  blt := g.blt
  suite := fun i h => by rw [hx] at h; cases h
  tabs := ⟨g.tabs.ex, g.tabs.kt, g.tabs.xok⟩
theorem Good.suiteG (g : Good G X W none) {i : Option Nat} {a : Addr} {oe : Obj} {cls : Value} {d : Option Addr} {pn : List (Addr × Obj)} (hz : Zc cls d oe) (hf : ∃ vs, oe.data = .fields vs) : Good (G.suite i) (Cx.suite X a ((a, oe) :: pn)) W0 (xcOf i a cls d) where
  hN := g.hN
  nd := g.nd
  hsc := g.hsc
  tk := takes_none5
  un := g.un
  calm := fun h => nomatch h
  top := fun h => nomatch h
  fn := g.fn
  gl := fun y k h => by
    have h : (match G.gl y with
      | some (.val d) => some (.val d)
      | some (.cls c) => some (.cls c)
      | some (.exc c _) => some (.cls c)
      | _ => none) = some k := h
    split at h
    · rename_i d' e; cases h; exact g.gl y _ e
    · rename_i c' e; cases h; exact g.gl y _ e
    · rename_i c' fs e; cases h; obtain ⟨_, q, _⟩ := g.gl y _ e; exact q
    · cases h
  blt := g.blt
  suite := fun j h => by
    have h : i = some j := h
    subst h
    exact ⟨a, oe, cls, d, pn, X, rfl, hz, hf, rfl⟩
  tabs := ⟨g.tabs.ex, g.tabs.kt, g.tabs.xok⟩
/-! ### except clauses -/
def isLoc (sc : Scope) (y : Str) : Bool := match sc.names.lookup y with
  | some .local => true
  | _ => false
theorem isLoc_ok {sc : Scope} {y : Str} (h : isLoc sc y = true) : sc.names.lookup y = some .local := by
  unfold isLoc at h
  split at h
  · assumption
  · cases h
def cHds (c : Cp) (G : Gm) : List ExceptHandler → Option (List HdM)
  | [] => some []
  | .ExceptHandler (some (.Name k _)) n (b :: bs) _ :: r => if glB G.sc k && noDbg k then
      let cn : Option Str := match G.gl k with
        | some (.exc c _) => some c
        | some (.cls c) => some c
        | _ => none
      let sl : Option (Option Nat) := match n with
        | none => some none
        | some y => if isLoc G.sc y then (ixOf G.N y).map some else none
      match cn, sl, cHds c G r with
      | some cc, some i, some l => some (⟨cc, i, c.ss (G.suite i) (b :: bs)⟩ :: l)
      | _, _, _ => none else none
  | _ => none
theorem cHds_ok (S : Snd c) (g : Good G X W none) : ∀ {hs : List ExceptHandler} {l : List HdM}, cHds c G hs = some l → HdsX X hs (hdL X.K l)
  | [], l, h => by cases h; exact .nil
  | h0 :: r, l, h => by
    unfold cHds at h
    split at h
    · rename_i heq; cases heq
    · rename_i k np n b bs p r' heq
      cases heq
      split at h
      · rename_i bb
        simp only [Bool.and_eq_true] at bb
        have hg := glB_ok g bb.1
        simp only at h
        split at h
        · rename_i cc i l' e1 e2 e3
          cases h
          have hm : X.mg k = some (.ref (gaK X.K cc)) := by
            split at e1
            · rename_i c' fs ek; cases e1; obtain ⟨_, q, _⟩ := g.gl k _ ek; exact q
            · rename_i c' ek; cases e1; exact g.gl k _ ek
            · cases e1
          have nm : Names X k (.ref (gaK X.K cc)) := ⟨hg, (noDbg_ok bb.2).1, .inl hm⟩
          have ih := cHds_ok S g e3
          cases n with
          | none =>
            cases e2
            exact .bare nm (fun a oe cls d pn hz hf => S.ss (g.suiteG (i := none) hz hf)) ih
          | some y =>
            simp only at e2
            split at e2
            · rename_i bl
              obtain ⟨j, ej, rfl⟩ := map_some e2
              refine .named nm (by rw [g.hN]; exact ixOf_get ej) ?_ (fun a oe cls d pn hz hf => S.ss (g.suiteG (i := some j) hz hf)) ih
              show X.env.scope.names.lookup y = _
              rw [g.hsc]
              exact isLoc_ok bl
            · cases e2
        · cases h
      · cases h
    · cases h
/-! ### statements -/
def sNo : SM := fun _ _ => .no
def isFun (sc : Scope) : Bool := match sc.kind with
  | .function => true
  | _ => false
theorem isFun_ok {sc : Scope} (h : isFun sc = true) : sc.kind = .function := by
  unfold isFun at h
  split at h
  · assumption
  · cases h
/-- name = [..]: the comprehension's list is stored ahead of its end -/
def swB (G : Gm) (y : Str) (p pos : Pos) (scope : Scope) : Bool := isFun G.sc && isLoc G.sc y && p.line == pos.line && !(scope.names.any fun (n, k) => n == y && (k == .local || k == .cell))
noncomputable def cAsgLc (c : Cp) (G : Gm) (y : Str) (elt : Expr) (gens : List Comprehension) (scope : Scope) (lpos : Pos) : Option SM := match ixOf G.N y, cComp c G elt gens scope lpos with
  | some i, some m => some (sAsg m (gVar i))
  | _, _ => none
noncomputable def stepS0 (c : Cp) (G : Gm) : Stmt → Option SM
  | .Expr (.Constant (.str _) _ _) _ => some sNext
  | .Expr e _ => if noComp e then (c.e G e).map sExpr else none
  | .Assign [.Name y p] (.ListComp elt gens scope lpos) pos => if swB G y p lpos scope && lpos.line == pos.line then cAsgLc c G y elt gens scope lpos else none
  | .Assign [tg] e _ => if noComp e && noTupE e && noStar tg then match c.e G e, c.g G tg with
    | some m, some (g, _) => some (sAsg m g)
    | _, _ => none else none
  | .AugAssign (.Name y _) op e _ => match ixOf G.N y, ipF op, c.e G e with
    | some i, some f, some m => if locB G y then some (sAug i f m) else none
    | _, _, _ => none
  | .If q a b _ => match c.t G q with
    | some t => some (sIf t (c.ss G a) (c.ss G b))
    | none => none
  | .For tg iter body els _ => if G.top && G.calm && noSet iter then match cI c G tg iter, c.g G tg with
    | some im, some (g, _) => some (sFor im g (c.ss G body) (c.ss G els))
    | _, _ => none else none
  | .While q body els _ => if G.top then match c.t G q with
    | some t => some (sWhile t (c.ss G body) (c.ss G els))
    | none => none else none
  | .Return (some e) _ => (c.e G e).map sRet
  | .Return none _ => some sRetN
  | .Break _ => some sBrk
  | .Continue _ => some sCont
  | .Pass _ => some sNext
  | .Raise (some (.Call (.Name k _) args [] _)) none _ => if G.calm && glB G.sc k && noDbg k then match G.gl k, cA c G args with
    | some (.exc cc fs), some (m :: ms) => if decide fs.Nodup && decide ((m :: ms).length ≤ 1000) then some (sRaise cc fs (m :: ms)) else none
    | _, _ => none else none
  | .Try body (h :: hs) [] [] _ => if G.top && decide (G.xs = none) then match cHds c G (h :: hs) with
    | some l => some (sTry G.ex (c.ss G body) l)
    | none => none else none
  | _ => none
noncomputable def stepS (c : Cp) (G : Gm) (st : Stmt) : SM := (stepS0 c G st).getD sNo
noncomputable def stepSs (c : Cp) (G : Gm) : List Stmt → SM
  | [] => sNext
  | [st] => c.s G st
  | st :: rest => sSeq (c.s G st) (c.ss G rest)
theorem sw_true (g : Good G X W x) {y : Str} {p lpos : Pos} {elt : Expr} {gens : List Comprehension} {scope : Scope} {n : Nat} (hb : swB G y p lpos scope = true) : swapsWith (.ListComp elt gens scope lpos) (some (.Name y p)) n X.env = pure true := by
  simp only [swB, Bool.and_eq_true] at hb
  obtain ⟨⟨⟨hf, hb1⟩, hb2⟩, hb3⟩ := hb
  have kf : X.env.scope.kind = .function := by rw [g.hsc]; exact isFun_ok hf
  have k1 : (X.env.blockKind == .function) = true := by
    unfold Env.blockKind
    rw [kf]
    rfl
  have k2 : (X.env.kindOf y == some .local) = true := by
    show (X.env.scope.names.lookup y == some .local) = true
    rw [g.hsc, isLoc_ok hb1]
    rfl
  show (pure (X.env.blockKind == .function && X.env.kindOf y == some .local && p.line == lpos.line && !(scope.names.any fun (n, k) => n == y && (k == .local || k == .cell))) : Sem Bool) = pure true
  rw [k1, k2, hb2, hb3]
  rfl
theorem rd_mono {K : PySem.W.Frag} {W : WX} {x : Xc} {m : EM} {σ : L2.St} {H : Hp} {Q Q' : VK} (h : rd K W x m σ H Q) (k : ∀ v H, Q v H → Q' v H) : rd K W x m σ H Q' := by
  obtain ⟨w, env, S, rfl, s, er, h⟩ := h
  exact ⟨w, env, S, rfl, s, er, h.mono fun d S1 w1 l1 s1 h1 v rv => k _ _ (h1 v rv)⟩
theorem cAsgLc_ok (S : Snd c) (g : Good G X W x) {y : Str} {p lpos pos : Pos} {elt : Expr} {gens : List Comprehension} {scope : Scope} {m : SM} (hb : swB G y p lpos scope = true) (h : cAsgLc c G y elt gens scope lpos = some m) : PS X (.Assign [.Name y p] (.ListComp elt gens scope lpos) pos) (rdS X.K W x m) := by
  unfold cAsgLc at h
  split at h
  · rename_i i m' ei em
    cases h
    have hb0 := hb
    simp only [swB, Bool.and_eq_true] at hb0
    have hy : X.N[i]? = some y := by rw [g.hN]; exact ixOf_get ei
    have hN : X.N.Nodup := by rw [g.hN]; exact g.nd
    have hyl : X.env.scope.names.lookup y = some .local := by rw [g.hsc]; exact isLoc_ok hb0.1.1.2
    unfold cComp at em
    simp only at em
    split at em
    · rename_i b
      simp only [Bool.and_eq_true] at b
      obtain ⟨b1, b2⟩ := b
      have hc := g.calm b1
      have ok : BlkOk X.N X.env.scope scope (ownOf G.N scope.names) := by
        rw [g.hN, g.hsc]
        exact blkOk_by b2
      split at em
      · rename_i tg iter ifs
        split at em
        · rename_i bs
          split at em
          · rename_i im g1 sl t e e1 e2 e3 e4
            split at em
            · rename_i bl
              cases em
              refine PSimp (ps_setLc (te := rd X.K W0 x e) (tt := rdB X.K W0 x t) (g := rdG X.K x sl g1) hc hN hy hyl (sw_true g hb) (cI_ok S g e1) ok (fun s H C cl fp => S.g (g.blk s H scope C cl fp) e2) (fun s H C cl fp => cIfs_ok S (g.blk s H scope C cl fp) e3) (fun s H C cl fp => S.e (g.blk s H scope C cl fp) e4) fun _ => folded_no bs) fun D σ H q => ?_
              exact sim_comp (subL_ok bl) (rd_mono (simS_asg (sl := [i]) q) fun v H q => simG_var q)
            · cases em
          · cases em
        · cases em
      · rename_i tg iter ifs tg1 iter1 ifs1
        split at em
        · rename_i bs
          simp only [Bool.and_eq_true] at bs
          split at em
          · rename_i im g1 sl t im1 g2 sl1 t1 e e1 e2 e3 e4 e5 e6 e7
            split at em
            · rename_i bl
              simp only [Bool.and_eq_true] at bl
              cases em
              refine PSimp (ps_setLc2 (te := rd X.K W0 x e) (tt := rdB X.K W0 x t) (g := rdG X.K x sl g1) (wi1 := rdI X.K W0 x im1) (g1 := rdG X.K x sl1 g2) (tt1 := rdB X.K W0 x t1) hc hN hy hyl (sw_true g hb) (cI_ok S g e1) ok (subL_ok bl.2) (fun s H C cl fp => S.g (g.blk s H scope C cl fp) e2) (fun s H C cl fp => cIfs_ok S (g.blk s H scope C cl fp) e3) (fun s H C cl fp => cI_ok S (g.blk s H scope C cl fp) e4)
                (fun s H C cl fp => S.g (g.blk s H scope C cl fp) e5) (fun s H C cl fp => cIfs_ok S (g.blk s H scope C cl fp) e6) (fun s H C cl fp => S.e (g.blk s H scope C cl fp) e7) (fun _ => folded_no bs.1) fun _ _ => folded_no bs.2) fun D σ H q => ?_
              exact sim_comp2 (subL_ok bl.1) (fun j hj => hj) (rd_mono (simS_asg (sl := [i]) q) fun v H q => simG_var q)
            · cases em
          · cases em
        · cases em
      · cases em
    · cases em
  · cases h
theorem stepS0_ok (S : Snd c) (g : Good G X W x) {st : Stmt} {m : SM} (h : stepS0 c G st = some m) : PS X st (rdS X.K W x m) := by
  unfold stepS0 at h
  split at h
  · cases h
    exact PSimp ps_doc fun D σ H q => simS_next q
  · split at h
    · rename_i b
      obtain ⟨me, e1, rfl⟩ := map_some h
      exact PSimp (ps_expr (S.e g e1) (swaps_no b)) fun D σ H q => simS_expr q
    · cases h
  · split at h
    · rename_i b
      simp only [Bool.and_eq_true] at b
      exact cAsgLc_ok S g b.1 h
    · cases h
  · rename_i tg e pos _
    split at h
    · rename_i b
      simp only [Bool.and_eq_true] at b
      obtain ⟨⟨b1, b2⟩, b3⟩ := b
      split at h
      · rename_i me gt sl e1 e2
        cases h
        exact PSimp (ps_asg (S.e g e1) (S.g g e2) (swaps_no b1) (stores_no b2) (by rw [each_cons b3]; rfl)) fun D σ H q => simS_asg q
      · cases h
    · cases h
  · split at h
    · rename_i i f me e1 e2 e3
      split at h
      · rename_i b
        cases h
        obtain ⟨h1, h2⟩ := locB_ok g b
        obtain ⟨r, k1, k2⟩ := ipF_ok e2 X
        exact PSimp (ps_aug (by rw [g.hN]; exact g.nd) (by rw [g.hN]; exact ixOf_get e1) h1 (S.e g e3) k1 h2) fun D σ H q => simS_aug k2 q
      · cases h
    · cases h
  · split at h
    · rename_i t e1
      cases h
      exact PSimp (ps_if (S.t g e1) (S.ss g) (S.ss g)) fun D σ H q => simS_if q
    · cases h
  · split at h
    · rename_i b
      simp only [Bool.and_eq_true] at b
      obtain ⟨⟨b1, b2⟩, b3⟩ := b
      split at h
      · rename_i im gt sl e1 e2
        cases h
        exact PSimp (ps_forE (g.top b1).2.2.1 (g.calm b2) (cI_ok S g e1) (S.g g e2) (S.ss g) (S.ss g) fun _ => folded_no b3) fun D σ H q => simS_for q
      · cases h
    · cases h
  · split at h
    · rename_i b
      split at h
      · rename_i t e1
        cases h
        exact PSimp (ps_whileE (g.top b).2.2.1 (S.t g e1) (S.ss g) (S.ss g)) fun D σ H q => simS_while q
      · cases h
    · cases h
  · obtain ⟨me, e1, rfl⟩ := map_some h
    exact PSimp (ps_ret (S.e g e1)) fun D σ H q => simS_ret q
  · cases h
    exact PSimp ps_retN fun D σ H q => simS_retN q
  · cases h
    exact PSimp ps_break fun D σ H q => simS_brk q
  · cases h
    exact PSimp ps_continue fun D σ H q => simS_cont q
  · cases h
    exact PSimp ps_pass fun D σ H q => simS_next q
  · rename_i k kp args p pos
    split at h
    · rename_i b
      simp only [Bool.and_eq_true] at b
      obtain ⟨⟨b1, b2⟩, b3⟩ := b
      split at h
      · rename_i cc fs m1 ms e1 e2
        split at h
        · rename_i bd
          simp only [Bool.and_eq_true, decide_eq_true_eq] at bd
          cases h
          obtain ⟨ha, hst, hl⟩ := cA_ok S g e2
          obtain ⟨kk, hm, T, hr⟩ := g.gl k _ e1
          match args, ha, hst, hl with
          | e :: es, ha, hst, _ =>
            rw [List.all_cons, Bool.and_eq_true] at hst
            exact PSimp (ps_raise (g.calm b1) g.tk (pmk_x T hr (glB_ok g b2) hm ha (noDbg_ok b3).1 (star_cons hst.1) (star_any hst.2))) fun D σ H q => sim_raise bd.1 bd.2 q
        · cases h
      · cases h
    · cases h
  · rename_i body h0 hs pos
    split at h
    · rename_i b
      simp only [Bool.and_eq_true, decide_eq_true_eq] at b
      split at h
      · rename_i l e1
        cases h
        obtain ⟨t1, t2, t3, rfl⟩ := g.top b.1
        exact PSimp (ps_tryX (tb := fun W' => rdS X.K W' none (c.ss G body)) (by rw [g.hN]; exact g.nd) t1 t2 g.tk (fun W' pn xe tk hp => S.ss (g.tr ⟨t1, t2⟩ tk hp b.2)) (cHds_ok S g e1)) fun D σ H q => simS_try g.tabs.ex q
      · cases h
    · cases h
  · cases h
theorem stepS_ok (S : Snd c) (g : Good G X W x) {st : Stmt} : PS X st (rdS X.K W x (stepS c G st)) := by
  unfold stepS
  cases e : stepS0 c G st with
  | none => exact stuckS
  | some m => exact stepS0_ok S g e
theorem stepSs_ok (S : Snd c) (g : Good G X W x) {st : List Stmt} : PSs X st (rdS X.K W x (stepSs c G st)) := by
  match st with
  | [] => exact PSsimp pss_nil fun D σ H q => simS_next q
  | [s1] => exact pss_one (S.s g)
  | s1 :: s2 :: r => exact PSsimp (pss_cons (S.s g) (S.ss g)) fun D σ H q => simS_seq q
end
noncomputable def stepC (c : Cp) : Cp := ⟨stepE c, stepT c, stepG c, stepS c, stepSs c⟩
noncomputable def cp : Nat → Cp
  | 0 => cp0
  | n + 1 => stepC (cp n)
theorem cp_ok : ∀ n, Snd (cp n)
  | 0 => snd0
  | n + 1 => ⟨fun g h => stepE_ok (cp_ok n) g h, fun g h => stepT_ok (cp_ok n) g h, fun g h => stepG_ok (cp_ok n) g h, fun g => stepS_ok (cp_ok n) g, fun g => stepSs_ok (cp_ok n) g⟩
end EV
/-! ## A21 -/
set_option Elab.async false
set_option linter.all false
set_option maxRecDepth 100000
set_option maxHeartbeats 2000000
/-! Part 21: the table of a text's names; what each def means. -/
namespace EV
open PySem PySem.Spec
open PyProof.Rows hiding St
open L2 EV0 StX
section
variable {P : Program} {wd : World} {K : PySem.W.Frag} {mg : Str → Option Value} {base : Heap}
/-- a module's name, told at the head -/
def GlobK (P : Program) (wd : World) (K : PySem.W.Frag) (mg : Str → Option Value) (base : Heap) (k : Nat) (y : Str) : GK → Prop
  | .fn m => ∃ f, mg y = some (.ref f) ∧ PySem.W.keepIn K (.ref f) = true ∧ FnD P wd K mg base k f m
  | .val d => ∃ u v, mg y = some u ∧ RelV v u ∧ ∀ w, Rep K w d v
  | .cls c => mg y = some (.ref (gaK K c))
  | .exc c fs => ∃ j, mg y = some (.ref (gaK K c)) ∧ XCls P wd K mg base j c fs ∧ j + 1 ≤ k
theorem GlobK.le {j k : Nat} {y : Str} {g : GK} (h : GlobK P wd K mg base j y g) (l : j ≤ k) : GlobK P wd K mg base k y g := by
  cases g with
  | fn m => obtain ⟨f, h1, h2, h3⟩ := h; exact ⟨f, h1, h2, h3.le l⟩
  | val d => exact h
  | cls c => exact h
  | exc c fs => obtain ⟨i, h1, h2, h3⟩ := h; exact ⟨i, h1, h2, Nat.le_trans h3 l⟩
abbrev Tbl := List (Str × GK)
def Tbl.Ok (P : Program) (wd : World) (K : PySem.W.Frag) (mg : Str → Option Value) (base : Heap) (k : Nat) (T : Tbl) : Prop := ∀ p ∈ T, GlobK P wd K mg base k p.1 p.2
theorem Tbl.nil {k : Nat} : Tbl.Ok P wd K mg base k [] := fun p h => by cases h
theorem Tbl.cons {k : Nat} {y : Str} {g : GK} {T : Tbl} (h : GlobK P wd K mg base k y g) (t : Tbl.Ok P wd K mg base k T) : Tbl.Ok P wd K mg base k ((y, g) :: T) := fun p hp => by
  rcases List.mem_cons.mp hp with rfl | hp
  · exact h
  · exact t p hp
theorem Tbl.step {k : Nat} {y : Str} {g : GK} {T : Tbl} (t : Tbl.Ok P wd K mg base k T) (h : Tbl.Ok P wd K mg base k T → GlobK P wd K mg base (k + 1) y g) : Tbl.Ok P wd K mg base (k + 1) ((y, g) :: T) :=
  Tbl.cons (h t) fun p hp => (t p hp).le (Nat.le_succ k)
end
theorem mem_look {α β : Type} [BEq α] [LawfulBEq α] {a : α} {b : β} : ∀ {l : List (α × β)}, l.lookup a = some b → (a, b) ∈ l
  | [], h => by cases h
  | (c, d) :: r, h => by
    rw [List.lookup_cons] at h
    split at h
    · rename_i e
      cases h
      have e' : a = c := by simpa using e
      rw [e']
      exact List.mem_cons_self
    · exact List.mem_cons_of_mem _ (mem_look h)
abbrev STab := List ((Str × Str) × Bool)
/-- the text's fixed tables -/
structure Txt where
  blt : List Str
  ex : STab
  kt : STab
  xok : List (Str × Str)
structure Txt.Ok (t : Txt) (K : PySem.W.Frag) (mg : Str → Option Value) : Prop where
  blt : ∀ y ∈ t.blt, mg y = none
  ex : ∀ p ∈ t.ex, PySem.W.exmOne K (.ref (gaK K p.1.1)) (.ref (gaK K p.1.2)) = some p.2
  kt : ∀ p ∈ t.kt, ExcC K (gaK K p.1.1) ∧ PySem.W.kitOne K (.ref (gaK K p.1.1)) (.ref (gaK K p.1.2)) = some p.2
  xok : ∀ p ∈ t.xok, XfC K (gaK K p.1) ∧ PySem.W.findIn K (.ref (gaK K p.1)) p.2 = some none
/-- a def's own data: the places at which lists and dicts are cells, dicts have tuples as keys -/
structure Sites where
  cells : List (Nat × Nat)
  tks : List (Nat × Nat)
def gmOf (t : Txt) (T : Tbl) (s : Sites) (N : List Str) (sc : Scope) : Gm where
  N := N
  sc := sc
  gl := fun y => T.lookup y
  blt := fun y => t.blt.contains y
  cells := fun l c => s.cells.contains (l, c)
  tks := fun l c => s.tks.contains (l, c)
  calm := true
  top := true
  xs := none
  fn := fun _ => true
  ex := fun a b => t.ex.lookup (a, b)
  kt := fun a b => t.kt.lookup (a, b)
  xok := fun a b => t.xok.contains (a, b)
section
variable {P : Program} {wd : World} {K : PySem.W.Frag} {mg : Str → Option Value} {base : Heap} {k : Nat} {t : Txt} {T : Tbl} {s : Sites}
theorem good_def {N : List Str} {qual : Str} {scope : Scope} {f : Addr} {cd : Value} {A : Around} {outer : List PySem.Env} {sh : Shared} {H : Hp} {E : XK} (ht : t.Ok K mg) (hT : Tbl.Ok P wd K mg base k T) (nd : N.Nodup) (hr : Room k (A.deeper (envOfC qual scope sh.heap.objs.size f cd))) :
    Good (gmOf t T s N scope) (cxOf (L2.CX P wd) P wd K mg base N qual scope f cd A outer sh H E) (fun cls d _ H => E cls d H) none where
  hN := rfl
  nd := nd
  hsc := rfl
  tk := takes_of rfl rfl rfl rfl
  un := by
    have := hr.un
    show (A.deeper (envOfC qual scope sh.heap.objs.size f cd)).units + 65 < cLine
    omega
  calm := fun _ => rfl
  top := fun _ => ⟨rfl, rfl, passes_of rfl, rfl⟩
  fn := fun _ _ => rfl
  gl := fun y g h => by
    have h : T.lookup y = some g := h
    have q := hT _ (PySem.mem_of_lookup h)
    cases g with
    | fn m => obtain ⟨f, h1, h2, h3⟩ := q; exact ⟨f, k, h1, h2, h3, hr⟩
    | val d => exact q
    | cls c => exact q
    | exc c fs => obtain ⟨j, h1, h2, h3⟩ := q; exact ⟨j, h1, h2, hr.mono h3⟩
  blt := fun y h => ht.blt y (by simpa [gmOf] using h)
  suite := fun i h => nomatch h
  tabs := ⟨fun c1 c2 b h => by
      have h : t.ex.lookup (c1, c2) = some b := h
      exact ht.ex ((c1, c2), b) (mem_look h), fun c1 c2 b h => by
      have h : t.kt.lookup (c1, c2) = some b := h
      exact ht.kt ((c1, c2), b) (mem_look h), fun c f h => ht.xok (c, f) (by simpa [gmOf] using h)⟩
/-- a def without stars -/
theorem glob_def {y x qual : Str} {params : Arguments} {body : List Stmt} {scope : Scope} {f : Addr} {fd : FuncData} {N ps : List Str} {m : SM} {fz : Bool} (n np nn : Nat) (F : FunD K x qual params body scope [] [] f fd) (hy : mg y = some (.ref f)) (S : FnScope N ps scope)
    (hb : ∀ (kV doc pm : Value) (an : Option Addr) (cdv ct : Value) (us : List Value), us.length = ps.length → bindArgs (PySem.W.fnOf x qual params body scope .none kV doc pm an cdv ct) ⟨us, []⟩ = pure (ps.zip us))
    (hnp : np = ps.length) (hnn : nn = N.length) (hm : (cp n).ss (gmOf t T s N scope) body = m) (ht : t.Ok K mg) (hT : Tbl.Ok P wd K mg base k T) : GlobK P wd K mg base (k + 1) y (.fn (defM fz np nn m)) := by
  obtain ⟨oc, od, dV, kV, doc, pm, an, cdv, ct, osl, rfl, lk, hcd, hD, hK⟩ := F.ex
  have kp := F.kp
  rcases hD with ⟨_, rfl⟩ | ⟨e, _⟩
  · refine ⟨f, hy, kp, fnD_of lk hcd S (fun us hl => hb kV doc pm an cdv ct us hl) hnp hnn fun A outer s H E hr => ?_⟩
    rw [← hm]
    exact (cp_ok n).ss (good_def ht hT S.nd hr)
  · exact absurd rfl e
/-- what is left over is a new tuple -/
noncomputable def defV (fz : Bool) (np n : Nat) (m : SM) : FN := fun ds S => if np ≤ ds.length ∧ (ds.drop np).length ≤ sizeLine then cutR S (if fz then frzR S.length (outR (m (env0 n (ds.take np ++ [.tup (ds.drop np)])) S)) else outR (m (env0 n (ds.take np ++ [.tup (ds.drop np)])) S)) else .no
theorem repL_append {w : Wd} : ∀ {ds : List D} {vs : List V} {es : List D} {us : List V}, RepL K w ds vs → RepL K w es us → RepL K w (ds ++ es) (vs ++ us)
  | [], vs, es, us, h, h' => by
    have e : vs = [] := h
    subst e
    exact h'
  | d :: ds, vs, es, us, h, h' => by
    obtain ⟨v, vs', rfl, r1, r2⟩ := h
    exact ⟨v, vs' ++ us, rfl, r1, repL_append r2 h'⟩
theorem repL_split {w : Wd} : ∀ {n : Nat} {ds : List D} {vs : List V}, RepL K w ds vs → RepL K w (ds.take n) (vs.take n) ∧ RepL K w (ds.drop n) (vs.drop n)
  | 0, ds, vs, h => ⟨rfl, h⟩
  | n + 1, [], vs, h => by
    have e : vs = [] := h
    subst e
    exact ⟨rfl, rfl⟩
  | n + 1, d :: ds, vs, h => by
    obtain ⟨v, vs', rfl, r1, r2⟩ := h
    obtain ⟨q1, q2⟩ := repL_split (n := n) r2
    exact ⟨⟨v, _, rfl, r1, q1⟩, q2⟩
theorem glob_star {y x qual pv : Str} {params : Arguments} {body : List Stmt} {scope : Scope} {f : Addr} {fd : FuncData} {N ps : List Str} {m : SM} {fz : Bool} (n np nn : Nat) (F : FunD K x qual params body scope [] [] f fd) (hy : mg y = some (.ref f)) (S : FnScope N (ps ++ [pv]) scope)
    (hb : ∀ (kV doc pm : Value) (an : Option Addr) (cdv ct : Value) (us rest : List Value), us.length = ps.length → bindArgs (PySem.W.fnOf x qual params body scope .none kV doc pm an cdv ct) ⟨us ++ rest, []⟩ = (newTuple rest >>= fun t => pure (ps.zip us ++ [(pv, t)])))
    (hnp : np = ps.length) (hnn : nn = N.length) (hm : (cp n).ss (gmOf t T s N scope) body = m) (ht : t.Ok K mg) (hT : Tbl.Ok P wd K mg base k T) : GlobK P wd K mg base (k + 1) y (.fn (defV fz np nn m)) := by
  obtain ⟨oc, od, dV, kV, doc, pm, an, cdv, ct, osl, rfl, lk, hcd, hD, hK⟩ := F.ex
  have kp := F.kp
  rcases hD with ⟨_, rfl⟩ | ⟨e, _⟩
  · refine ⟨f, hy, kp, ?_⟩
    have FR : FnR P wd K mg base (L2.CX P wd) (k + 1) f (fun vs H Q E => ∃ ws rest, vs = ws ++ rest ∧ ws.length = ps.length ∧ rest.length ≤ sizeLine ∧ ∀ p, H p = Option.none →
        (fun vs H Q E => ∃ w S ds, w.H = H ∧ SR K w S ∧ RepL K w ds vs ∧ Post K (fun cls d _ H => E cls d H) [] w (outR (m (env0 nn ds) S)) (fun d _ w' => ∀ v, Rep K w' d v → Q v w'.H)) (ws ++ [V.ref p]) (upd H p (.tup rest)) Q E) :=
      fn_star (sp := fun vs H Q E => ∃ w S ds, w.H = H ∧ SR K w S ∧ RepL K w ds vs ∧ Post K (fun cls d _ H => E cls d H) [] w (outR (m (env0 nn ds) S)) (fun d _ w' => ∀ v, Rep K w' d v → Q v w'.H)) lk hcd S cxUp (fun us rest hl => hb kV doc pm an cdv ct us rest hl) fun A outer sh H vs Q E hr h => ⟨_, (hm ▸ (cp_ok n).ss (good_def ht hT S.nd hr) : PSs _ body (rdS K (fun cls d _ H => E cls d H) none m)), by
        obtain ⟨w, S1, ds, rfl, s1, r, h⟩ := h
        rw [hnn] at h
        exact ⟨w, _, S1, rfl, s1, start_env r, outR_post h⟩⟩
    show FnR P wd K mg base (L2.CX P wd) (k + 1) f (spD K (defV fz np nn m))
    refine FR.imp fun vs H Q E h => ?_
    obtain ⟨w, S1, ds, rfl, s1, r, h⟩ := h
    unfold defV at h
    by_cases e : np ≤ ds.length ∧ (ds.drop np).length ≤ sizeLine
    · rw [if_pos e] at h
      obtain ⟨r1, r2⟩ := repL_split (n := np) r
      refine ⟨vs.take np, vs.drop np, (List.take_append_drop np vs).symm, by rw [List.length_take, ← r.length, ← hnp]; omega, by rw [← r2.length]; exact e.2, fun p hp => ?_⟩
      have l := le_tp (o := .tup (vs.drop np)) s1 hp
      have h2 := post_cutR s1 h
      have h3 : Post K (fun cls d _ H => E cls d H) [] w (outR (m (env0 nn (ds.take np ++ [.tup (ds.drop np)])) S1)) (fun d _ w' => ∀ v, Rep K w' d v → Q v w'.H) := by
        cases fz with
        | true => exact post_frzR h2
        | false => exact h2
      have ow := Own.fresh (o := .tup (vs.drop np)) s1 hp
      refine ⟨w.tp p (.tup (vs.drop np)), S1, _, rfl, sr_tp s1 hp, repL_append (repL_le l _ _ r1) (show RepL K _ [D.tup (ds.drop np)] [V.ref p] from ⟨V.ref p, [], rfl, ⟨p, vs.drop np, rfl, ow.at_, by rw [← r2.length]; exact e.2, repL_le l _ _ r2⟩, rfl⟩), h3.le l⟩
    · rw [if_neg e] at h
      exact h.elim
  · exact absurd rfl e
end
def scB (N ps : List Str) (sc : Scope) : Bool := (match sc.kind with
  | .function => true
  | _ => false) && !sc.isCoroutine && !sc.isGenerator && decide N.Nodup && decide (N.take ps.length = ps) && (ps.all fun x => match sc.names.lookup x with
  | some .local => true
  | some .cell => true
  | _ => false) && sc.names.all fun p => match p.2 with
  | .free => false
  | _ => true
theorem scB_ok {N ps : List Str} {sc : Scope} (h : scB N ps sc = true) : FnScope N ps sc := by
  simp only [scB, Bool.and_eq_true, Bool.not_eq_true', decide_eq_true_eq] at h
  obtain ⟨⟨⟨⟨⟨⟨h1, h2⟩, h3⟩, h4⟩, h5⟩, h6⟩, h7⟩ := h
  refine ⟨?_, h2, h3, h4, h5, fun x hx => ?_, fun y hy e => ?_⟩
  · split at h1
    · assumption
    · cases h1
  · have q := List.all_eq_true.mp h6 x hx
    revert q
    cases e : sc.names.lookup x with
    | none => intro q; cases q
    | some z => cases z <;> intro q <;> first | exact .inl rfl | exact .inr rfl | cases q
  · have q := List.all_eq_true.mp h7 y hy
    rw [e] at q
    cases q
end EV
/-! ## A22 -/
set_option Elab.async false
set_option linter.all false
set_option maxRecDepth 100000
set_option maxHeartbeats 2000000
/-! Part 22: what the head tells: exception classes; the Hook; the law's end. -/
namespace EV
open PySem PySem.Spec
open PyProof.Rows hiding St
open L2 EV0 StX
theorem gaK_eq (K : PySem.W.Frag) (x : Str) : gaK K x = He.ga K x := rfl
def oexB (K : PySem.W.Frag) (C : Addr) : Bool := (match K.lookup C with
  | some ⟨.type t, _, .cls cd, sl⟩ => (match cd.mro, sl.toList with
    | .ref C' :: bm, [_, _, _, _, some (.builtin n), _] => decide (t = "type") && decide (C' = C) && decide (n = "ValueError.__new__") && !cd.hasDel && cd.hasDict && PySem.HandSPX.refsVE bm
    | _, _ => false)
  | _ => false) && He.eqO (PySem.W.findIn K (.ref C) "__setattr__") (some (some (.builtin "object.__setattr__"))) && decide (PySem.W.subIn K (.ref C) (.type "BaseException") = some true) && decide (PySem.W.typeIn K (.ref C) = some (.type "type")) && PySem.W.keepIn K (.ref C)
theorem oexB_ok {K : PySem.W.Frag} {C : Addr} (h : oexB K C = true) : OexC K C := by
  unfold oexB at h
  simp only [Bool.and_eq_true, decide_eq_true_eq] at h
  obtain ⟨⟨⟨⟨h1, h2⟩, h3⟩, h4⟩, h5⟩ := h
  refine ⟨?_, He.eqO_ok h2, h3, h4, h5⟩
  split at h1
  · rename_i t dd cd sl ho
    split at h1
    · rename_i C' bm k0 k1 k2 k3 n k5 hm hs
      simp only [Bool.and_eq_true, decide_eq_true_eq, Bool.not_eq_true'] at h1
      obtain ⟨⟨⟨⟨⟨rfl, rfl⟩, rfl⟩, hdel⟩, hdc⟩, hv⟩ := h1
      obtain ⟨nm, bs, mro, ns, qn, hd, sn, sub, ab, col, del⟩ := cd
      dsimp only at hm hdel hdc
      subst hm hdel hdc
      have hsl : sl = #[k0, k1, k2, k3, some (.builtin "ValueError.__new__"), k5] := by
        obtain ⟨l⟩ := sl
        simp only at hs
        rw [hs]
      subst hsl
      exact ⟨nm, qn, ns, bs, bm, sn, sub, ab, col, dd, k0, k1, k2, k3, k5, ho, hv⟩
    · cases h1
  · cases h1
def supB (K : PySem.W.Frag) (C D : Addr) : Bool := oexB K C && decide (PySem.W.mroIn K C (.ref D) = some true) && He.eqO (PySem.W.ks_superIn K C D "__init__") (some (some (.builtin "ValueError.__init__"))) && decide (PySem.W.subIn K (.ref C) (.type "ValueError") = some true) && He.eqO (PySem.W.nsIn K PySem.cStatics "thirdparty.any") (some none)
theorem supB_ok {K : PySem.W.Frag} {C D : Addr} (h : supB K C D = true) : SupC K C D := by
  unfold supB at h
  simp only [Bool.and_eq_true, decide_eq_true_eq] at h
  obtain ⟨⟨⟨⟨h1, h2⟩, h3⟩, h4⟩, h5⟩ := h
  exact ⟨oexB_ok h1, h2, He.eqO_ok h3, h4, He.eqO_ok h5⟩
def excB (K : PySem.W.Frag) (C : Addr) : Bool := He.eqO (PySem.W.findIn K (.ref C) "__getattribute__") (some (some (.builtin "BaseException.__getattribute__"))) && He.eqO (PySem.W.findIn K (.ref C) "__getattr__") (some none) && decide (PySem.W.subIn K (.ref C) (.type "BaseException") = some true) && PySem.W.hasDictIn K C &&
  He.eqO (PySem.W.findIn K (.ref C) "__class__") (some (some (.builtin "object.__class__"))) && He.eqO (PySem.W.specialIn K (.builtin "object.__class__") "__get__") (some (some (.builtin "getset_descriptor.__get__"))) && decide (PySem.W.takesIn K (.builtin "object.__class__") = some true) && decide (PySem.W.mroIn K C (.type "object") = some true)
theorem excB_ok {K : PySem.W.Frag} {C : Addr} (h : excB K C = true) : ExcC K C := by
  unfold excB at h
  simp only [Bool.and_eq_true, decide_eq_true_eq] at h
  obtain ⟨⟨⟨⟨⟨⟨⟨h1, h2⟩, h3⟩, h4⟩, h5⟩, h6⟩, h7⟩, h8⟩ := h
  exact ⟨He.eqO_ok h1, He.eqO_ok h2, h3, h4, He.eqO_ok h5, He.eqO_ok h6, h7, h8⟩
/-! ### an exception class, its __init__ -/
structure XcD where
  c : Str
  fs : List Str
  st : Stmt
abbrev XnW := Option (Str × Str × Arguments × FuncBody × Scope × Addr × List Str × Addr)
def xnW (K : PySem.W.Frag) (c : Str) : XnW := match K.lookup (He.ma K (gaK K c) "__init__") with
  | some ⟨_, _, .func fd, _⟩ => some (fd.name, fd.qualname, fd.params, fd.body, fd.scope, fd.globals, fd.closure.map (·.1), fd.builtins)
  | _ => none
def qualI (c : Str) : Str := c ++ ".__init__"
def XcD.val (d : XcD) : XnW := some ("__init__", qualI d.c, L2.defArgs d.st, .stmts (L2.defBody d.st), L2.defScope d.st, mainGlobals, ["__class__"], builtinsNs)
def XcD.ok (file : Str) (K : PySem.W.Frag) (d : XcD) : Bool := He.eqO (PySem.W.nsIn K mainGlobals d.c) (some (some (.ref (gaK K d.c)))) && supB K (gaK K d.c) (gaK K d.c) && He.eqO (PySem.W.findIn K (.ref (gaK K d.c)) "__init__") (some (some (.ref (He.ma K (gaK K d.c) "__init__")))) &&
  decide (PySem.W.typeIn K (.ref (He.ma K (gaK K d.c) "__init__")) = some (.type "function")) && (PySem.W.clsIn K (gaK K d.c)).isSome && (d.fs.all fun g => He.eqO (PySem.W.findIn K (.ref (gaK K d.c)) g) (some none)) && match K.lookup (He.ma K (gaK K d.c) "__init__") with
  | some ⟨_, _, .func fd, _⟩ => (match fd.defaults with
    | .none => true
    | _ => false) && (match fd.closure with
    | [(_, cc)] => (match K.lookup cc with
      | some ⟨_, _, .cell (some (.ref D)), _⟩ => decide (D = gaK K d.c)
      | _ => false)
    | _ => false) && (match fd.code with
    | .ref cda => PySem.W.codeIn K (.ref cda) (qualI d.c) && (match K.lookup cda with
      | some ⟨_, _, .fields vs, _⟩ => (match (vs[2]? : Option Value) with
        | some (.str f _) => file == f
        | _ => false)
      | _ => false)
    | _ => false)
  | _ => false
section
variable {P : Program} {wd : World} {K : PySem.W.Frag} {mg : Str → Option Value} {base : Heap} {h : Heap}
theorem glob_exc {file : Str} {d : XcD} {N ps : List Str} {a0 msg : Str} {rest : List Stmt} {j0 : Nat} {p0 p1 p2 p3 p4 pm' : Pos} {l : List (Str × Nat)} {pl : Sem Bool} (X : K.In h) (G : h.Ns mainGlobals mg)
    (hok : d.ok file K = true) (hv : xnW K d.c = d.val) (hfile : P.main.file = file) (htop : (P.main.scope.names.lookup ("super" : Str)).isSome = false) (hsm : mg "super" = none)
    (hpar : ∃ ar, ((L2.defArgs d.st).posonlyargs ++ (L2.defArgs d.st).args).head? = some ar ∧ ar.arg = a0)
    (S : NdefX.nscB N ps ["__class__"] (L2.defScope d.st) = true) (hps : ps.head? = some a0) (hks : (L2.defScope d.st).names.lookup ("super" : Str) = some .globalImplicit)
    (hb : ∀ (cl : List (Str × Addr)) (kV doc pm : Value) (an : Option Addr) (cdv ct : Value) (us : List Value), us.length = ps.length → bindArgs (PySem.W.fnX "__init__" (qualI d.c) (L2.defArgs d.st) (L2.defBody d.st) (L2.defScope d.st) cl .none kV doc pm an cdv ct) ⟨us, []⟩ = pure (ps.zip us))
    (hbd : L2.defBody d.st = .Expr (.Call (.Attribute (.Call (.Name "super" p0) [] [] p1) "__init__" p2) [.Constant (.str msg) j0 pm'] [] p3) p4 :: rest)
    (hev : ∀ env, eval (.Call (.Attribute (.Call (.Name "super" p0) [] [] p1) "__init__" p2) [.Constant (.str msg) j0 pm'] [] p3) env = (do
      let ov ← attributeBase (.Call (.Name "super" p0) [] [] p1) "__init__" env (eval (.Call (.Name "super" p0) [] [] p1) env)
      standAt p2.atName
      let (f, first) ← holding [ov] (getMethod ov "__init__" pl)
      callWith p3 f first (backTo p3 (starEach [.Constant (.str msg) j0 pm'] env)) []))
    (hi : iniB N (L2.defScope d.st) rest = some l) (hl : l.map (·.2) = (List.range l.length).map (· + 1)) (hfn : l.map (·.1) = d.fs) (hpl : ps.length = d.fs.length + 1) (hne : d.fs ≠ []) (h900 : d.fs.length ≤ 900) (hnd : d.fs.Nodup) :
    GlobK P wd K mg base 2 d.c (.exc d.c d.fs) := by
  unfold XcD.ok at hok
  simp only [Bool.and_eq_true, decide_eq_true_eq] at hok
  obtain ⟨⟨⟨⟨⟨⟨g1, g2⟩, g3⟩, g4⟩, g5⟩, g6⟩, g7⟩ := hok
  have hm : mg d.c = some (.ref (gaK K d.c)) := PySem.W.mg_of X G (He.eqO_ok g1)
  have SC := supB_ok g2
  refine ⟨1, hm, ⟨SC.oex, ⟨_, He.eqO_ok g3, g4, ?_⟩, hnd⟩, Nat.le_refl _⟩
  split at g7
  · rename_i oc od fd osl lk
    unfold xnW XcD.val at hv
    rw [lk] at hv
    obtain ⟨n1, n2, n3, n4, n5, n6, n7, n8, n9, n10, n11, n12, n13, n14, n15⟩ := fd
    simp only [Option.some.injEq, Prod.mk.injEq] at hv
    obtain ⟨rfl, rfl, rfl, rfl, rfl, rfl, e7, rfl⟩ := hv
    simp only [Bool.and_eq_true] at g7
    obtain ⟨⟨c1, c2⟩, c3⟩ := g7
    split at c1
    · split at c2
      · rename_i y cc
        have ey : y = "__class__" := by simpa using e7
        subst ey
        split at c2
        · rename_i q1 q2 D q3 lcc
          have eD : D = gaK K d.c := by simpa using c2
          subst eD
          split at c3
          · rename_i cda
            simp only [Bool.and_eq_true] at c3
            obtain ⟨k1, k2⟩ := c3
            split at k2
            · rename_i r1 r2 vs r3 lcd
              split at k2
              · rename_i ff tk evs
                exact fn_xini (a0 := a0) (p0 := p0) (p1 := p1) (p2 := p2) (p3 := p3) (p4 := p4) (pl := pl) ⟨⟨_, _, _, lk⟩, hpar, ⟨_, _, _, _, _, _, lcd, evs, by rw [hfile]; exact k2⟩, ⟨_, _, _, lcc⟩, g5, htop⟩ k1 (NdefX.nscope_by S) hps hks hsm (fun us hl => hb _ _ _ _ _ _ _ us hl) hbd hev hi hl hfn hpl hne h900 SC fun g hg => He.eqO_ok (List.all_eq_true.mp g6 g hg)
              · cases k2
            · cases k2
          · cases c3
        · cases c2
      · cases c2
    · cases c1
  · cases g7
end
/-! ### the Hook -/
abbrev AlE : Type := Bool × List He.FnW × List XnW
/-- tables of exceptions: what the head must show -/
structure Hd where
  fa : List He.Fa
  fn : List He.DefD
  xc : List XcD
  file : Str
  t : Txt
def Txt.okB (t : Txt) (K : PySem.W.Frag) : Bool := (t.blt.all fun y => He.eqO (PySem.W.nsIn K mainGlobals y) (some none)) && (t.ex.all fun p => decide (PySem.W.exmOne K (.ref (gaK K p.1.1)) (.ref (gaK K p.1.2)) = some p.2)) &&
  (t.kt.all fun p => excB K (gaK K p.1.1) && decide (PySem.W.kitOne K (.ref (gaK K p.1.1)) (.ref (gaK K p.1.2)) = some p.2)) && t.xok.all fun p => xfB K (gaK K p.1) && He.eqO (PySem.W.findIn K (.ref (gaK K p.1)) p.2) (some none)
theorem Txt.okB_ok {t : Txt} {K : PySem.W.Frag} {h : Heap} {mg : Str → Option Value} (X : K.In h) (G : h.Ns mainGlobals mg) (b : t.okB K = true) : t.Ok K mg := by
  simp only [Txt.okB, Bool.and_eq_true, List.all_eq_true, decide_eq_true_eq] at b
  obtain ⟨⟨⟨b1, b2⟩, b3⟩, b4⟩ := b
  exact ⟨fun y hy => PySem.W.mg_none_of X G (He.eqO_ok (b1 y hy)), b2, fun p hp => ⟨excB_ok (b3 p hp).1, (b3 p hp).2⟩, fun p hp => ⟨xfB_ok (b4 p hp).1, He.eqO_ok (b4 p hp).2⟩⟩
def Hd.obs (d : Hd) (K : PySem.W.Frag) : AlE := ((d.fa.all fun f => f.ok K) && (d.fn.all fun f => f.ok K) && (d.xc.all fun c => c.ok d.file K) && d.t.okB K, d.fn.map fun f => He.fnW K f.at_, d.xc.map fun c => xnW K c.c)
def Hd.val (d : Hd) : AlE := (true, d.fn.map He.DefD.val, d.xc.map XcD.val)
def Hd.Says (d : Hd) (K : PySem.W.Frag) : Prop := d.obs K = d.val
def asE (g : Addr → Option Obj) (n : Nat) : List Addr := PySem.cStatics :: He.asD g n
def Hd.obsG (d : Hd) (n : Nat) (g : Addr → Option Obj) : AlE := d.obs (He.frG g (asE g n))
def Hd.hook (d : Hd) (n : Nat) : PySem.W.Hook where
  α := AlE
  obs := fun s => d.obsG n s.heap.get?
  val := fun _ => d.val
  says := fun _ h => ∃ K : PySem.W.Frag, K.In h ∧ d.Says K
  of := fun _ _ e => ⟨_, He.frG_in, e⟩
  keeps := fun _ _ _ ⟨K, hK, c⟩ k => ⟨K, PySem.W.Frag.In.keeps hK k, c⟩
theorem Hd.obsG_eq {d : Hd} {n : Nat} {g : Addr → Option Obj} {s : Shared} (h : ∀ a, g a = s.heap.get? a) : d.obsG n g = (d.hook n).obs s := by
  have e : g = s.heap.get? := funext h
  rw [e] <;> rfl
section
variable {d : Hd} {K : PySem.W.Frag} {h : Heap} {mg : Str → Option Value}
theorem Hd.Says.b (c : d.Says K) : ((d.fa.all fun f => f.ok K) = true ∧ (d.fn.all fun f => f.ok K) = true ∧ (d.xc.all fun c => c.ok d.file K) = true) ∧ d.t.okB K = true := by
  have q := congrArg (fun z : AlE => z.1) c
  have q : ((d.fa.all fun f => f.ok K) && (d.fn.all fun f => f.ok K) && (d.xc.all fun c => c.ok d.file K) && d.t.okB K) = true := q
  simp only [Bool.and_eq_true] at q
  exact ⟨⟨q.1.1.1, q.1.1.2, q.1.2⟩, q.2⟩
theorem Hd.Says.fact (c : d.Says K) (i : Nat) {f : He.Fa} (h : d.fa[i]? = some f := by rfl) : f.ok K = true := List.all_eq_true.mp c.b.1.1 f (List.mem_of_getElem? h)
theorem Hd.Says.def_ (c : d.Says K) (i : Nat) {f : He.DefD} (h : d.fn[i]? = some f := by rfl) : ∃ fd, FunD K f.name f.qual f.params f.body f.scope (f.dvs K) (f.kws K) (He.fAd K f.at_) fd := by
  have e : d.fn.map (fun f => He.fnW K f.at_) = d.fn.map He.DefD.val := congrArg (fun z : AlE => z.2.1) c
  have e2 : (d.fn.map fun f => He.fnW K f.at_)[i]? = (d.fn.map He.DefD.val)[i]? := by rw [e]
  rw [List.getElem?_map, List.getElem?_map, h] at e2
  exact He.DefD.funD (Option.some.inj e2) (List.all_eq_true.mp c.b.1.2.1 f (List.mem_of_getElem? h))
theorem Hd.Says.exc (c : d.Says K) (i : Nat) {x : XcD} (h : d.xc[i]? = some x := by rfl) : x.ok d.file K = true ∧ xnW K x.c = x.val := by
  have e : d.xc.map (fun x => xnW K x.c) = d.xc.map XcD.val := congrArg (fun z : AlE => z.2.2) c
  have e2 : (d.xc.map fun x => xnW K x.c)[i]? = (d.xc.map XcD.val)[i]? := by rw [e]
  rw [List.getElem?_map, List.getElem?_map, h] at e2
  exact ⟨List.all_eq_true.mp c.b.1.2.2 x (List.mem_of_getElem? h), Option.some.inj e2⟩
theorem Hd.Says.txt (c : d.Says K) (X : K.In h) (G : h.Ns mainGlobals mg) : d.t.Ok K mg := Txt.okB_ok X G c.b.2
theorem glob_int {P : Program} {wd : World} {base : Heap} {k : Nat} {y : Str} {i : Int} (X : K.In h) (G : h.Ns mainGlobals mg) (c : (He.Fa.int y i).ok K = true) : GlobK P wd K mg base k y (.val (.int i)) := by
  obtain ⟨t, e⟩ := He.int_ok X G c
  exact ⟨_, .int i, e, ⟨t, rfl⟩, fun _ => rfl⟩
theorem glob_str {P : Program} {wd : World} {base : Heap} {k : Nat} {y z : Str} (X : K.In h) (G : h.Ns mainGlobals mg) (c : (He.Fa.str y z).ok K = true) : GlobK P wd K mg base k y (.val (.str z)) := by
  obtain ⟨t, e⟩ := He.str_ok X G c
  exact ⟨_, .str z, e, ⟨t, rfl⟩, fun _ => rfl⟩
theorem glob_cls {P : Program} {wd : World} {base : Heap} {k : Nat} {y : Str} (X : K.In h) (G : h.Ns mainGlobals mg) (c : (He.Fa.glo y).ok K = true) : GlobK P wd K mg base k y (.cls y) := He.glo_ok X G c
end
/-! ### the law's end -/
theorem law_spD {K : PySem.W.Frag} {H : Hp} {a : Addr} {ns : List Int} {m : FN} (hO : Only H) (hS : SqL K H a (ns.map V.int)) (hl : ns.length ≤ sizeLine) (hm : ∃ S, m [.scr (ns.map .int)] [] = .ok (.bl true) S) : spD K m [.ref a] H (fun v _ => v = .bl true) fun _ _ _ => False := by
  obtain ⟨S, hm⟩ := hm
  have rl : ∀ (w : Wd) (ns : List Int), RepL K w (ns.map D.int) (ns.map V.int) := fun w ns => by
    induction ns with
    | nil => rfl
    | cons i r ih => exact ⟨.int i, r.map V.int, rfl, rfl, ih⟩
  refine ⟨⟨[], fun _ => False, H⟩, [], [.scr (ns.map .int)], rfl, ⟨rfl, fun l c h => by simp at h, fun l l' c c' a h => by simp at h, fun a h => h.elim, fun a h => by cases h⟩, ⟨.ref a, [], rfl, ⟨a, ns.map V.int, rfl, ?_, by simpa using hl, rl _ ns⟩, rfl⟩, ?_⟩
  · rcases hS with h | h
    · obtain h | ⟨o, h⟩ := h
      · rcases hO a with q | ⟨o, xs, q⟩
        · rw [q] at h; cases h
        · rw [q] at h; cases h
      · exact .inl ⟨o, h⟩
    · exact .inr h
  · rw [hm]
    intro w' l s v rv
    exact rv
end EV
/-! ## A23 -/
set_option Elab.async false
set_option linter.all false
set_option maxRecDepth 100000
set_option maxHeartbeats 2000000
/-! Part 23: the law's own def. -/
namespace EV
open PySem PySem.Spec
open PyProof.Rows hiding St
open L2 EV0 StX
theorem FnOk.wide {P : Program} {wd : World} {K : PySem.W.Frag} {mg : Str → Option Value} {base : Heap} {CX CX' : CXT} {k : Nat} {f : Addr} {fd : FuncData} {ps : List Str} {sp : Sp} (F : FnOk P wd K mg base CX k f fd ps sp) (h : ∀ o H s E u s', CX o H s E u s' → CX' o H s E u s') : FnOk P wd K mg base CX' k f fd ps sp :=
  ⟨F.len, fun A outer s H args us vs Q E hr he hb hv hs => codeAny_mono (F.run A outer s H args us vs Q E hr he hb hv hs) fun r s' q => by
    cases r with
    | error e => exact h _ _ _ _ _ _ q
    | ok fl => cases fl <;> exact q⟩
/-- what any world's def may let out -/
def CXany (P : Program) : CXT := fun o H s E u s' => ∃ wd, L2.CX P wd o H s E u s'
theorem cxany_none {P : Program} (H : Hp) (s : Shared) (e : Value) (s' : Shared) (h : CXany P [] H s (fun _ _ _ => False) e s') : False := by
  obtain ⟨wd, _, _, _, _, _, _, _, _, _, _, _, _, z⟩ := h
  exact z
section
variable {P : Program} {wd : World} {K : PySem.W.Frag} {mg : Str → Option Value} {base : Heap} {k : Nat} {t : Txt} {T : Tbl} {s : Sites}
theorem law_def {x qual : Str} {params : Arguments} {body : List Stmt} {scope : Scope} {f : Addr} {fd : FuncData} {N ps : List Str} {m : SM} {fz : Bool} (n np nn : Nat) (F : FunD K x qual params body scope [] [] f fd) (S : FnScope N ps scope)
    (hnp : np = ps.length) (hnn : nn = N.length) (hm : (cp n).ss (gmOf t T s N scope) body = m) (ht : t.Ok K mg) (hT : Tbl.Ok P wd K mg base k T) : FnOk P wd K mg base (CXany P) (k + 1) f fd ps (spD K (defM fz np nn m)) := by
  obtain ⟨oc, od, dV, kV, doc, pm, an, cdv, ct, osl, rfl, lk, hcd, hD, hK⟩ := F.ex
  have F1 : FnOk P wd K mg base (L2.CX P wd) (k + 1) f (PySem.W.fnOf x qual params body scope dV kV doc pm an cdv ct) ps (spD K (defM fz np nn m)) := by
    refine fn_of lk hcd S (fun vs H Q E h => ?_) fun A outer sh H vs Q E hr h => ⟨_, (hm ▸ (cp_ok n).ss (good_def ht hT S.nd hr) : PSs _ body (rdS K (fun cls d _ H => E cls d H) none m)), ?_⟩
    · obtain ⟨w, S1, ds, _, _, r, h⟩ := h
      unfold defM at h
      by_cases e : ds.length = np
      · rw [← r.length, e, hnp]
      · rw [if_neg e] at h
        exact h.elim
    · obtain ⟨w, S1, ds, rfl, s1, r, h⟩ := h
      unfold defM at h
      by_cases e : ds.length = np
      · rw [if_pos e] at h
        have h2 := post_cutR s1 h
        have h3 : Post K (fun cls d _ H => E cls d H) [] w (outR (m (env0 nn ds) S1)) (fun d _ w' => ∀ v, Rep K w' d v → Q v w'.H) := by
          cases fz with
          | true => exact post_frzR h2
          | false => exact h2
        rw [hnn] at h3
        exact ⟨w, _, S1, rfl, s1, start_env r, outR_post h3⟩
      · rw [if_neg e] at h
        exact h.elim
  exact FnOk.wide F1 fun o H s E u s' q => ⟨wd, q⟩
end
end EV
/-! ## K02 -/
set_option Elab.async false
set_option linter.all false
set_option maxRecDepth 100000
set_option maxHeartbeats 0
/-! The defs of the text, what they mean, the head. Printed by gen.py. -/
namespace K02
open PySem PySem.Spec
open PyProof.Rows hiding St
open L2 EV0 EV StX
def top (i : Nat) : Stmt := PySem.Challenge.pw_signsandrests_k02_rooms_meet_and_join.main.body.getD i (.Pass ⟨0, 0, 0, 0⟩)
def ini (i j : Nat) : Stmt := match top i with
  | .ClassDef _ _ _ b _ _ _ _ _ _ _ => b.getD j (.Pass ⟨0, 0, 0, 0⟩)
  | _ => .Pass ⟨0, 0, 0, 0⟩
def txt : Txt := ⟨["abs", "bool", "enumerate", "int", "isinstance", "len", "list", "range", "tuple", "zip", "super"], [(("BadRoom", "BadRoom"), true), (("BadRoom", "TooLarge"), false), (("TooLarge", "BadRoom"), false), (("TooLarge", "TooLarge"), true)], [(("BadRoom", "BadArgument"), true), (("BadRoom", "OldNewsError"), true), (("TooLarge", "BadArgument"), false), (("TooLarge", "OldNewsError"), true)], [("BadRoom", "row"), ("TooLarge", "count"), ("TooLarge", "limit")]⟩
def T_0 : Tbl := [("OldNewsError", .cls "OldNewsError"), ("BadArgument", .cls "BadArgument"), ("BadRoom", .exc "BadRoom" ["row"]), ("TooLarge", .exc "TooLarge" ["count", "limit"]), ("MOST_HOUSES", .val (.int 12)), ("FREE", .val (.int 2)), ("MOST_FREE", .val (.int 8))]
/-! ### as_room -/
def N_as_room : List Str := ["size", "row", "mark"]
def s_as_room : Sites := ⟨[(20, 10)], []⟩
noncomputable def b_as_room : SM := (sSeq (sAsg (eApp fTupleK [(eVar 1)]) (gVar 1)) (sSeq (sIf (bOf (eBin fNe (eApp fLen [(eVar 1)]) (eVar 0))) (sRaise "BadRoom" ["row"] [(eVar 1)]) sNext) (sSeq (sFor (iPlain (eVar 1)) (gVar 2) (sIf (bOf (eBin fNotIn (eVar 2) (eTup [(eC (.int 0)), (eC (.int 1)), (eC (.int 2))]))) (sRaise "BadRoom" ["row"] [(eVar 1)]) sNext) sNext) (sRet (eVar 1)))))
noncomputable def f_as_room : FN := defM false 2 3 b_as_room
theorem m_as_room : (cp 60).ss (gmOf txt T_0 s_as_room N_as_room (defScope (top 7))) (defBody (top 7)) = b_as_room := by kernel_rfl
theorem sc_as_room : FnScope N_as_room ["size", "row"] (defScope (top 7)) := scB_ok (by decide +kernel)
noncomputable def T_1 : Tbl := ("as_room", .fn f_as_room) :: T_0
/-! ### as_lone_room -/
def N_as_lone_room : List Str := ["row"]
def s_as_lone_room : Sites := ⟨[(28, 10)], []⟩
noncomputable def b_as_lone_room : SM := (sSeq (sAsg (eApp fTupleK [(eVar 0)]) (gVar 0)) (sSeq (sIf (bNot (bOf (eChain fLe fLe (eC (.int 1)) (eApp fLen [(eVar 0)]) (eC (.int 12))))) (sRaise "BadRoom" ["row"] [(eVar 0)]) sNext) (sRet (eApp f_as_room [(eApp fLen [(eVar 0)]), (eVar 0)]))))
noncomputable def f_as_lone_room : FN := defM false 1 1 b_as_lone_room
theorem m_as_lone_room : (cp 60).ss (gmOf txt T_1 s_as_lone_room N_as_lone_room (defScope (top 8))) (defBody (top 8)) = b_as_lone_room := by kernel_rfl
theorem sc_as_lone_room : FnScope N_as_lone_room ["row"] (defScope (top 8)) := scB_ok (by decide +kernel)
noncomputable def T_2 : Tbl := ("as_lone_room", .fn f_as_lone_room) :: T_1
/-! ### need_at_most -/
def N_need_at_most : List Str := ["count", "limit"]
def s_need_at_most : Sites := ⟨[], []⟩
noncomputable def b_need_at_most : SM := (sIf (bOf (eBin fGt (eVar 0) (eVar 1))) (sRaise "TooLarge" ["count", "limit"] [(eVar 0), (eVar 1)]) sNext)
noncomputable def f_need_at_most : FN := defM false 2 2 b_need_at_most
theorem m_need_at_most : (cp 60).ss (gmOf txt T_2 s_need_at_most N_need_at_most (defScope (top 9))) (defBody (top 9)) = b_need_at_most := by kernel_rfl
theorem sc_need_at_most : FnScope N_need_at_most ["count", "limit"] (defScope (top 9)) := scB_ok (by decide +kernel)
noncomputable def T_3 : Tbl := ("need_at_most", .fn f_need_at_most) :: T_2
/-! ### free_houses -/
def N_free_houses : List Str := ["room", "house", "mark"]
def s_free_houses : Sites := ⟨[(40, 11)], []⟩
noncomputable def b_free_houses : SM := (sSeq (sAsg (eApp f_as_lone_room [(eVar 0)]) (gVar 0)) (sRet (eApp fTupleK [(eComp false (iEnumD [(eVar 0)]) (gTupD 2 (gsCons (gVar 1) (gsCons (gVar 2) gsNil))) (bOf (eBin fEq (eVar 2) (eC (.int 2)))) (eVar 1) [1, 2])])))
noncomputable def f_free_houses : FN := defM false 1 3 b_free_houses
theorem m_free_houses : (cp 60).ss (gmOf txt T_3 s_free_houses N_free_houses (defScope (top 13))) (defBody (top 13)) = b_free_houses := by kernel_rfl
theorem sc_free_houses : FnScope N_free_houses ["room"] (defScope (top 13)) := scB_ok (by decide +kernel)
noncomputable def T_4 : Tbl := ("free_houses", .fn f_free_houses) :: T_3
/-! ### states_of -/
def N_states_of : List Str := ["room", "states", "mark", "digits", "state", "digit"]
def s_states_of : Sites := ⟨[(48, 11)], []⟩
noncomputable def b_states_of : SM := (sSeq (sAsg (eApp f_as_lone_room [(eVar 0)]) (gVar 0)) (sSeq (sExpr (eApp f_need_at_most [(eMeth2 (some fmCountL) (some fmCountT) (eVar 0) [(eC (.int 2))]), (eC (.int 8))])) (sSeq (sAsg (eLst false [(eTup [])]) (gVar 1)) (sSeq (sFor (iPlain (eVar 0)) (gVar 2) (sSeq (sAsg (eIf (bOf (eBin fEq (eVar 2) (eC (.int 2)))) (eTup [(eC (.int 0)), (eC (.int 1))]) (eTup [(eVar 2)])) (gVar 3)) (sAsg (eComp2 false (iPlain (eVar 1)) (gVar 4) bYes (iPlain (eVar 3)) (gVar 5) bYes (eBin fAdd (eVar 4) (eTup [(eVar 5)])) [4, 5] [5]) (gVar 1))) sNext) (sRet (eApp fTupleK [(eVar 1)]))))))
noncomputable def f_states_of : FN := defM false 1 6 b_states_of
theorem m_states_of : (cp 60).ss (gmOf txt T_4 s_states_of N_states_of (defScope (top 14))) (defBody (top 14)) = b_states_of := by kernel_rfl
theorem sc_states_of : FnScope N_states_of ["room"] (defScope (top 14)) := scB_ok (by decide +kernel)
noncomputable def T_5 : Tbl := ("states_of", .fn f_states_of) :: T_4
/-! ### is_inside -/
def N_is_inside : List Str := ["room", "other", "mark", "around"]
def s_is_inside : Sites := ⟨[], []⟩
noncomputable def b_is_inside : SM := (sSeq (sFor (iZipD [(eVar 0), (eVar 1)]) (gTupD 2 (gsCons (gVar 2) (gsCons (gVar 3) gsNil))) (sIf (bAnd (bOf (eBin fNe (eVar 3) (eC (.int 2)))) (bOf (eBin fNe (eVar 2) (eVar 3)))) (sRet (eC (.bl false))) sNext) sNext) (sRet (eC (.bl true))))
noncomputable def f_is_inside : FN := defM false 2 4 b_is_inside
theorem m_is_inside : (cp 60).ss (gmOf txt T_5 s_is_inside N_is_inside (defScope (top 15))) (defBody (top 15)) = b_is_inside := by kernel_rfl
theorem sc_is_inside : FnScope N_is_inside ["room", "other"] (defScope (top 15)) := scB_ok (by decide +kernel)
noncomputable def T_6 : Tbl := ("is_inside", .fn f_is_inside) :: T_5
/-! ### lies_within -/
def N_lies_within : List Str := ["room", "other"]
def s_lies_within : Sites := ⟨[], []⟩
noncomputable def b_lies_within : SM := (sSeq (sAsg (eApp f_as_lone_room [(eVar 0)]) (gVar 0)) (sSeq (sAsg (eApp f_as_room [(eApp fLen [(eVar 0)]), (eVar 1)]) (gVar 1)) (sRet (eApp f_is_inside [(eVar 0), (eVar 1)]))))
noncomputable def f_lies_within : FN := defM false 2 2 b_lies_within
theorem m_lies_within : (cp 60).ss (gmOf txt T_6 s_lies_within N_lies_within (defScope (top 16))) (defBody (top 16)) = b_lies_within := by kernel_rfl
theorem sc_lies_within : FnScope N_lies_within ["room", "other"] (defScope (top 16)) := scB_ok (by decide +kernel)
noncomputable def T_7 : Tbl := ("lies_within", .fn f_lies_within) :: T_6
/-! ### same_sized -/
def N_same_sized : List Str := ["first", "others", "rooms", "other"]
def s_same_sized : Sites := ⟨[(60, 12)], []⟩
noncomputable def b_same_sized : SM := (sSeq (sAsg (eApp f_as_lone_room [(eVar 0)]) (gVar 0)) (sSeq (sAsg (eLst true [(eVar 0)]) (gVar 2)) (sSeq (sFor (iPlain (eVar 1)) (gVar 3) (sExpr (eMeth2 (some fmAppend) none (eVar 2) [(eApp f_as_room [(eApp fLen [(eVar 0)]), (eVar 3)])])) sNext) (sRet (eVar 2)))))
noncomputable def f_same_sized : FN := defM true 2 4 b_same_sized
theorem m_same_sized : (cp 60).ss (gmOf txt T_7 s_same_sized N_same_sized (defScope (top 17))) (defBody (top 17)) = b_same_sized := by kernel_rfl
theorem sc_same_sized : FnScope N_same_sized ["first", "others"] (defScope (top 17)) := scB_ok (by decide +kernel)
noncomputable def T_8 : Tbl := ("same_sized", .fn f_same_sized) :: T_7
/-! ### meet -/
def N_meet : List Str := ["first", "others", "rooms", "marks", "room", "house", "mark"]
def s_meet : Sites := ⟨[(66, 12), (73, 11)], []⟩
noncomputable def b_meet : SM := (sSeq (sAsg (eApp f_same_sized [(eVar 0), (eVar 1)]) (gVar 2)) (sSeq (sAsg (eApp (fList true) [(eBin fIx (eVar 2) (eC (.int 0)))]) (gVar 3)) (sSeq (sFor (iPlain (eVar 2)) (gVar 4) (sFor (iEnumD [(eVar 4)]) (gTupD 2 (gsCons (gVar 5) (gsCons (gVar 6) gsNil))) (sIf (bOf (eBin fEq (eBin fIx (eVar 3) (eVar 5)) (eC (.int 2)))) (sAsg (eVar 6) (gSubD (eVar 3) (eVar 5))) (sIf (bOf (eBin fNotIn (eVar 6) (eTup [(eC (.int 2)), (eBin fIx (eVar 3) (eVar 5))]))) (sRet (eC .non)) sNext)) sNext) sNext) (sRet (eApp fTupleK [(eVar 3)])))))
noncomputable def f_meet : FN := defV false 1 7 b_meet
theorem m_meet : (cp 60).ss (gmOf txt T_8 s_meet N_meet (defScope (top 18))) (defBody (top 18)) = b_meet := by kernel_rfl
theorem sc_meet : FnScope N_meet ["first", "others"] (defScope (top 18)) := scB_ok (by decide +kernel)
noncomputable def T_9 : Tbl := ("meet", .fn f_meet) :: T_8
/-! ### join -/
def N_join : List Str := ["first", "others", "rooms", "marks", "room", "house", "mark"]
def s_join : Sites := ⟨[(76, 12), (81, 11)], []⟩
noncomputable def b_join : SM := (sSeq (sAsg (eApp f_same_sized [(eVar 0), (eVar 1)]) (gVar 2)) (sSeq (sAsg (eApp (fList true) [(eBin fIx (eVar 2) (eC (.int 0)))]) (gVar 3)) (sSeq (sFor (iPlain (eVar 2)) (gVar 4) (sFor (iEnumD [(eVar 4)]) (gTupD 2 (gsCons (gVar 5) (gsCons (gVar 6) gsNil))) (sIf (bOf (eBin fNe (eVar 6) (eBin fIx (eVar 3) (eVar 5)))) (sAsg (eC (.int 2)) (gSubD (eVar 3) (eVar 5))) sNext) sNext) sNext) (sRet (eApp fTupleK [(eVar 3)])))))
noncomputable def f_join : FN := defV false 1 7 b_join
theorem m_join : (cp 60).ss (gmOf txt T_9 s_join N_join (defScope (top 19))) (defBody (top 19)) = b_join := by kernel_rfl
theorem sc_join : FnScope N_join ["first", "others"] (defScope (top 19)) := scB_ok (by decide +kernel)
noncomputable def T_10 : Tbl := ("join", .fn f_join) :: T_9
/-! ### _law_cell -/
def N_law_cell : List Str := ["script", "k"]
def s_law_cell : Sites := ⟨[], []⟩
noncomputable def b_law_cell : SM := (sSeq (sIf (bOf (eBin fLt (eVar 1) (eApp fLen [(eVar 0)]))) (sRet (eApp fInt [(eBin fIx (eVar 0) (eVar 1))])) sNext) (sRet (eC (.int 0))))
noncomputable def f_law_cell : FN := defM false 2 2 b_law_cell
theorem m_law_cell : (cp 60).ss (gmOf txt T_10 s_law_cell N_law_cell (defScope (top 21))) (defBody (top 21)) = b_law_cell := by kernel_rfl
theorem sc_law_cell : FnScope N_law_cell ["script", "k"] (defScope (top 21)) := scB_ok (by decide +kernel)
noncomputable def T_11 : Tbl := ("_law_cell", .fn f_law_cell) :: T_10
/-! ### _law_draws -/
def N_law_draws : List Str := ["cell", "sizes", "rest", "draws", "k", "mixed"]
def s_law_draws : Sites := ⟨[(89, 12)], []⟩
noncomputable def b_law_draws : SM := (sSeq (sAsg (eApp fAbs [(eVar 0)]) (gVar 2)) (sSeq (sAsg (eLst true []) (gVar 3)) (sSeq (sFor (iRange [(eApp fLen [(eVar 1)])]) (gVar 4) (sIf (bOf (eBin fGe (eApp fAbs [(eVar 0)]) (eBin fPow (eC (.int 10)) (eC (.int 18))))) (sSeq (sExpr (eMeth2 (some fmAppend) none (eVar 3) [(eBin fMod (eApp fInt [(eVar 2)]) (eBin fIx (eVar 1) (eVar 4)))])) (sAsg (eBin fDiv (eVar 2) (eBin fIx (eVar 1) (eVar 4))) (gVar 2))) (sSeq (sAsg (eBin fMod (eApp fInt [(eBin fMul (eBin fMul (eBin fAdd (eBin fMod (eApp fInt [(eApp fAbs [(eVar 0)])]) (eC (.int 2147483647))) (eC (.int 1))) (eBin fAdd (eBin fMul (eC (.int 2)) (eVar 4)) (eC (.int 7)))) (eC (.int 48271)))]) (eC (.int 2147483647))) (gVar 5)) (sSeq (sAsg (eBin fMod (eApp fInt [(eBin fMul (eBin fAdd (eVar 5) (eVar 4)) (eBin fAdd (eVar 5) (eC (.int 69621))))]) (eC (.int 1000000007))) (gVar 5)) (sExpr (eMeth2 (some fmAppend) none (eVar 3) [(eBin fMod (eApp fInt [(eBin fDiv (eVar 5) (eC (.int 11)))]) (eBin fIx (eVar 1) (eVar 4)))]))))) sNext) (sRet (eVar 3)))))
noncomputable def f_law_draws : FN := defM true 2 6 b_law_draws
theorem m_law_draws : (cp 60).ss (gmOf txt T_11 s_law_draws N_law_draws (defScope (top 22))) (defBody (top 22)) = b_law_draws := by kernel_rfl
theorem sc_law_draws : FnScope N_law_draws ["cell", "sizes"] (defScope (top 22)) := scB_ok (by decide +kernel)
noncomputable def T_12 : Tbl := ("_law_draws", .fn f_law_draws) :: T_11
/-! ### _law_rooms -/
def N_law_rooms : List Str := ["script", "size", "mode", "base", "rooms", "k", "draws", "marks", "house", "freed", "draw"]
def s_law_rooms : Sites := ⟨[(102, 12), (105, 16), (107, 20), (112, 12)], []⟩
noncomputable def b_law_rooms : SM := (sSeq (sAsg (eBin fMod (eApp fInt [(eApp f_law_cell [(eVar 0), (eC (.int 1))])]) (eC (.int 3))) (gVar 2)) (sSeq (sAsg (eApp f_law_draws [(eApp f_law_cell [(eVar 0), (eC (.int 2))]), (eBin fMul (eLst false [(eC (.int 2))]) (eVar 1))]) (gVar 3)) (sSeq (sAsg (eLst true []) (gVar 4)) (sSeq (sFor (iRange [(eC (.int 3))]) (gVar 5) (sSeq (sAsg (eApp f_law_draws [(eApp f_law_cell [(eVar 0), (eBin fAdd (eC (.int 3)) (eVar 5))]), (eBin fMul (eLst false [(eC (.int 6))]) (eVar 1))]) (gVar 6)) (sSeq (sAsg (eComp true (iPlain (eVar 6)) (gVar 10) bYes (eBin fMod (eApp fInt [(eVar 10)]) (eC (.int 3))) [10]) (gVar 7)) (sSeq (sIf (bOf (eBin fGt (eVar 2) (eC (.int 0)))) (sAsg (eComp true (iRange [(eVar 1)]) (gVar 8) bYes (eIf (bOf (eBin fLt (eBin fIx (eVar 6) (eVar 8)) (eC (.int 3)))) (eBin fIx (eVar 3) (eVar 8)) (eC (.int 2))) [8]) (gVar 7)) sNext) (sExpr (eMeth2 (some fmAppend) none (eVar 4) [(eVar 7)]))))) sNext) (sSeq (sAsg (eBin fMod (eApp fInt [(eApp f_law_cell [(eVar 0), (eC (.int 6))])]) (eVar 1)) (gVar 8)) (sSeq (sIf (bOf (eBin fEq (eVar 2) (eC (.int 2)))) (sAsg (eBin fSub (eC (.int 1)) (eBin fIx (eVar 3) (eVar 8))) (gSubD (eBin fIx (eVar 4) (eC (.int 1))) (eVar 8))) sNext) (sSeq (sAsg (eApp (fList true) [(eBin fIx (eVar 4) (eC (.int 0)))]) (gVar 9)) (sSeq (sAsg (eC (.int 2)) (gSubD (eVar 9) (eVar 8))) (sSeq (sExpr (eMeth2 (some fmAppend) none (eVar 4) [(eVar 9)])) (sRet (eVar 4)))))))))))
noncomputable def f_law_rooms : FN := defM true 2 11 b_law_rooms
theorem m_law_rooms : (cp 60).ss (gmOf txt T_12 s_law_rooms N_law_rooms (defScope (top 23))) (defBody (top 23)) = b_law_rooms := by kernel_rfl
theorem sc_law_rooms : FnScope N_law_rooms ["script", "size"] (defScope (top 23)) := scB_ok (by decide +kernel)
noncomputable def T_13 : Tbl := ("_law_rooms", .fn f_law_rooms) :: T_12
/-! ### _law_states -/
def N_law_states : List Str := ["room", "states", "k", "mark", "off", "on", "state"]
def s_law_states : Sites := ⟨[], []⟩
noncomputable def b_law_states : SM := (sSeq (sAsg (eLst false [(eTup [])]) (gVar 1)) (sSeq (sFor (iRange [(eApp fLen [(eVar 0)])]) (gVar 2) (sSeq (sAsg (eBin fIx (eVar 0) (eBin fSub (eBin fSub (eApp fLen [(eVar 0)]) (eC (.int 1))) (eVar 2))) (gVar 3)) (sSeq (sAsg (eComp false (iPlain (eVar 1)) (gVar 6) (bOf (eBin fNe (eVar 3) (eC (.int 1)))) (eBin fAdd (eTup [(eC (.int 0))]) (eVar 6)) [6]) (gVar 4)) (sSeq (sAsg (eComp false (iPlain (eVar 1)) (gVar 6) (bOf (eBin fNe (eVar 3) (eC (.int 0)))) (eBin fAdd (eTup [(eC (.int 1))]) (eVar 6)) [6]) (gVar 5)) (sAsg (eBin fAdd (eVar 4) (eVar 5)) (gVar 1))))) sNext) (sRet (eVar 1))))
noncomputable def f_law_states : FN := defM false 1 7 b_law_states
theorem m_law_states : (cp 60).ss (gmOf txt T_13 s_law_states N_law_states (defScope (top 24))) (defBody (top 24)) = b_law_states := by kernel_rfl
theorem sc_law_states : FnScope N_law_states ["room"] (defScope (top 24)) := scB_ok (by decide +kernel)
noncomputable def T_14 : Tbl := ("_law_states", .fn f_law_states) :: T_13
/-! ### _law_inside -/
def N_law_inside : List Str := ["room", "other", "k"]
def s_law_inside : Sites := ⟨[], []⟩
noncomputable def b_law_inside : SM := (sRet (eUn fNot (eComp false (iRange [(eApp fLen [(eVar 0)])]) (gVar 2) (bAnd (bOf (eBin fNe (eBin fIx (eVar 1) (eVar 2)) (eC (.int 2)))) (bOf (eBin fNe (eBin fIx (eVar 0) (eVar 2)) (eBin fIx (eVar 1) (eVar 2))))) (eVar 2) [2])))
noncomputable def f_law_inside : FN := defM false 2 3 b_law_inside
theorem m_law_inside : (cp 60).ss (gmOf txt T_14 s_law_inside N_law_inside (defScope (top 25))) (defBody (top 25)) = b_law_inside := by kernel_rfl
theorem sc_law_inside : FnScope N_law_inside ["room", "other"] (defScope (top 25)) := scB_ok (by decide +kernel)
noncomputable def T_15 : Tbl := ("_law_inside", .fn f_law_inside) :: T_14
/-! ### _law_meet -/
def N_law_meet : List Str := ["rooms", "marks", "k", "fixed", "room"]
def s_law_meet : Sites := ⟨[(127, 12), (133, 11)], []⟩
noncomputable def b_law_meet : SM := (sSeq (sAsg (eLst true []) (gVar 1)) (sSeq (sFor (iRange [(eApp fLen [(eBin fIx (eVar 0) (eC (.int 0)))])]) (gVar 2) (sSeq (sAsg (eComp false (iPlain (eVar 0)) (gVar 4) (bOf (eBin fNe (eBin fIx (eVar 4) (eVar 2)) (eC (.int 2)))) (eBin fIx (eVar 4) (eVar 2)) [4]) (gVar 3)) (sSeq (sIf (bAnd (bOf (eBin fIn (eC (.int 0)) (eVar 3))) (bOf (eBin fIn (eC (.int 1)) (eVar 3)))) (sRet (eC .non)) sNext) (sExpr (eMeth2 (some fmAppend) none (eVar 1) [(eIf (bTru (eVar 3)) (eBin fIx (eVar 3) (eC (.int 0))) (eC (.int 2)))])))) sNext) (sRet (eApp fTupleK [(eVar 1)]))))
noncomputable def f_law_meet : FN := defM false 1 5 b_law_meet
theorem m_law_meet : (cp 60).ss (gmOf txt T_15 s_law_meet N_law_meet (defScope (top 26))) (defBody (top 26)) = b_law_meet := by kernel_rfl
theorem sc_law_meet : FnScope N_law_meet ["rooms"] (defScope (top 26)) := scB_ok (by decide +kernel)
noncomputable def T_16 : Tbl := ("_law_meet", .fn f_law_meet) :: T_15
/-! ### _law_join -/
def N_law_join : List Str := ["rooms", "marks", "k", "others", "room"]
def s_law_join : Sites := ⟨[(135, 12), (139, 11)], []⟩
noncomputable def b_law_join : SM := (sSeq (sAsg (eLst true []) (gVar 1)) (sSeq (sFor (iRange [(eApp fLen [(eBin fIx (eVar 0) (eC (.int 0)))])]) (gVar 2) (sSeq (sAsg (eComp false (iPlain (eVar 0)) (gVar 4) (bOf (eBin fNe (eBin fIx (eVar 4) (eVar 2)) (eBin fIx (eBin fIx (eVar 0) (eC (.int 0))) (eVar 2)))) (eVar 4) [4]) (gVar 3)) (sExpr (eMeth2 (some fmAppend) none (eVar 1) [(eIf (bTru (eVar 3)) (eC (.int 2)) (eBin fIx (eBin fIx (eVar 0) (eC (.int 0))) (eVar 2)))]))) sNext) (sRet (eApp fTupleK [(eVar 1)]))))
noncomputable def f_law_join : FN := defM false 1 5 b_law_join
theorem m_law_join : (cp 60).ss (gmOf txt T_16 s_law_join N_law_join (defScope (top 27))) (defBody (top 27)) = b_law_join := by kernel_rfl
theorem sc_law_join : FnScope N_law_join ["rooms"] (defScope (top 27)) := scB_ok (by decide +kernel)
noncomputable def T_17 : Tbl := ("_law_join", .fn f_law_join) :: T_16
/-! ### _law_truth -/
def N_law_truth : List Str := ["actual", "expected"]
def s_law_truth : Sites := ⟨[], []⟩
noncomputable def b_law_truth : SM := (sRet (eAnd (eApp fIsi [(eVar 0), (eC (.ty "bool"))]) (eBin fEq (eVar 0) (eVar 1))))
noncomputable def f_law_truth : FN := defM false 2 2 b_law_truth
theorem m_law_truth : (cp 60).ss (gmOf txt T_17 s_law_truth N_law_truth (defScope (top 28))) (defBody (top 28)) = b_law_truth := by kernel_rfl
theorem sc_law_truth : FnScope N_law_truth ["actual", "expected"] (defScope (top 28)) := scB_ok (by decide +kernel)
noncomputable def T_18 : Tbl := ("_law_truth", .fn f_law_truth) :: T_17
/-! ### _law_same -/
def N_law_same : List Str := ["actual", "expected", "k"]
def s_law_same : Sites := ⟨[], []⟩
noncomputable def b_law_same (self : FN) : SM := (sSeq (sIf (bOf (eBin fIs (eVar 1) (eC .non))) (sRet (eBin fIs (eVar 0) (eC .non))) sNext) (sSeq (sIf (bTru (eApp fIsi [(eVar 1), (eC (.ty "tuple"))])) (sSeq (sIf (bOr (bNot (bTru (eApp fIsi [(eVar 0), (eC (.ty "tuple"))]))) (bOf (eBin fNe (eApp fLen [(eVar 0)]) (eApp fLen [(eVar 1)])))) (sRet (eC (.bl false))) sNext) (sRet (eUn fNot (eComp false (iRange [(eApp fLen [(eVar 1)])]) (gVar 2) (bNot (bTru (eApp self [(eBin fIx (eVar 0) (eVar 2)), (eBin fIx (eVar 1) (eVar 2))]))) (eVar 2) [2])))) sNext) (sRet (eAnd (eApp fIsi [(eVar 0), (eC (.ty "int"))]) (eAnd (eUn fNot (eApp fIsi [(eVar 0), (eC (.ty "bool"))])) (eBin fEq (eVar 0) (eVar 1)))))))
noncomputable def f_law_same : Nat → FN
  | 0 => fun _ _ => .no
  | k + 1 => defM false 2 3 (b_law_same (f_law_same k))
theorem m_law_same (self : FN) : (cp 60).ss (gmOf txt (("_law_same", .fn self) :: T_18) s_law_same N_law_same (defScope (top 29))) (defBody (top 29)) = b_law_same self := by kernel_rfl
theorem sc_law_same : FnScope N_law_same ["actual", "expected"] (defScope (top 29)) := scB_ok (by decide +kernel)
noncomputable def T_19 : Tbl := ("_law_same", .fn (f_law_same 4)) :: T_18
/-! ### _law_lone_answers -/
def N_law_lone_answers : List Str := ["rooms", "room", "free", "other", "house"]
def s_law_lone_answers : Sites := ⟨[(153, 44), (155, 62)], []⟩
noncomputable def b_law_lone_answers : SM := (sSeq (sFor (iPlain (eVar 0)) (gVar 1) (sSeq (sAsg (eComp false (iRange [(eApp fLen [(eVar 1)])]) (gVar 4) (bOf (eBin fEq (eBin fIx (eVar 1) (eVar 4)) (eC (.int 2)))) (eVar 4) [4]) (gVar 2)) (sSeq (sIf (bNot (bTru (eApp (f_law_same 4) [(eApp f_free_houses [(eVar 1)]), (eApp fTupleK [(eVar 2)])]))) (sRet (eC (.bl false))) sNext) (sSeq (sIf (bAnd (bOf (eBin fLe (eApp fLen [(eVar 2)]) (eC (.int 8)))) (bNot (bTru (eApp (f_law_same 4) [(eApp f_states_of [(eVar 1)]), (eApp fTupleK [(eApp f_law_states [(eVar 1)])])])))) (sRet (eC (.bl false))) sNext) (sFor (iPlain (eVar 0)) (gVar 3) (sIf (bNot (bTru (eApp f_law_truth [(eApp f_lies_within [(eVar 1), (eVar 3)]), (eApp f_law_inside [(eVar 1), (eVar 3)])]))) (sRet (eC (.bl false))) sNext) sNext)))) sNext) (sRet (eC (.bl true))))
noncomputable def f_law_lone_answers : FN := defM false 1 5 b_law_lone_answers
theorem m_law_lone_answers : (cp 60).ss (gmOf txt T_19 s_law_lone_answers N_law_lone_answers (defScope (top 30))) (defBody (top 30)) = b_law_lone_answers := by kernel_rfl
theorem sc_law_lone_answers : FnScope N_law_lone_answers ["rooms"] (defScope (top 30)) := scB_ok (by decide +kernel)
noncomputable def T_20 : Tbl := ("_law_lone_answers", .fn f_law_lone_answers) :: T_19
/-! ### _law_meets -/
def N_law_meets : List Str := ["first", "second", "third", "met", "common", "state"]
def s_law_meets : Sites := ⟨[(171, 34), (171, 78), (175, 13), (181, 37)], []⟩
noncomputable def b_law_meets : SM := (sSeq (sAsg (eApp f_meet [(eVar 0), (eVar 1), (eVar 2)]) (gVar 3)) (sSeq (sIf (bNot (bTru (eApp (f_law_same 4) [(eVar 3), (eApp f_law_meet [(eLst false [(eVar 0), (eVar 1), (eVar 2)])])]))) (sRet (eC (.bl false))) sNext) (sSeq (sIf (bNot (bTru (eApp (f_law_same 4) [(eApp f_join [(eVar 0), (eVar 1), (eVar 2)]), (eApp f_law_join [(eLst false [(eVar 0), (eVar 1), (eVar 2)])])]))) (sRet (eC (.bl false))) sNext) (sSeq (sIf (bNot (bTru (eApp (f_law_same 4) [(eApp f_meet [(eVar 0), (eVar 1)]), (eApp f_law_meet [(eLst false [(eVar 0), (eVar 1)])])]))) (sRet (eC (.bl false))) sNext) (sSeq (sIf (bNot (bTru (eApp (f_law_same 4) [(eApp f_join [(eVar 0), (eVar 1)]), (eApp f_law_join [(eLst false [(eVar 0), (eVar 1)])])]))) (sRet (eC (.bl false))) sNext) (sSeq (sIf (bOr (bNot (bTru (eApp (f_law_same 4) [(eApp f_meet [(eVar 0)]), (eApp fTupleK [(eVar 0)])]))) (bNot (bTru (eApp (f_law_same 4) [(eApp f_join [(eVar 2)]), (eApp fTupleK [(eVar 2)])])))) (sRet (eC (.bl false))) sNext) (sSeq (sIf (bOf (eBin fGt (eApp fLen [(eVar 0)]) (eC (.int 5)))) (sRet (eC (.bl true))) sNext) (sSeq (sAsg (eLst true []) (gVar 4)) (sSeq (sFor (iPlain (eApp f_law_states [(eVar 0)])) (gVar 5) (sIf (bAnd (bTru (eApp f_law_inside [(eVar 5), (eVar 1)])) (bTru (eApp f_law_inside [(eVar 5), (eVar 2)]))) (sExpr (eMeth2 (some fmAppend) none (eVar 4) [(eVar 5)])) sNext) sNext) (sSeq (sIf (bOf (eBin fIs (eVar 3) (eC .non))) (sRet (eUn fNot (eVar 4))) sNext) (sRet (eApp (f_law_same 4) [(eApp f_states_of [(eVar 3)]), (eApp fTupleK [(eVar 4)])]))))))))))))
noncomputable def f_law_meets : FN := defM false 3 6 b_law_meets
theorem m_law_meets : (cp 60).ss (gmOf txt T_20 s_law_meets N_law_meets (defScope (top 31))) (defBody (top 31)) = b_law_meets := by kernel_rfl
theorem sc_law_meets : FnScope N_law_meets ["first", "second", "third"] (defScope (top 31)) := scB_ok (by decide +kernel)
noncomputable def T_21 : Tbl := ("_law_meets", .fn f_law_meets) :: T_20
/-! ### _law_many -/
def N_law_many : List Str := ["rooms", "one", "two", "three", "four", "five", "six", "seven", "eight"]
def s_law_many : Sites := ⟨[], []⟩
noncomputable def b_law_many : SM := (sSeq (sAsg (eSl (eVar 0) oNone (oSome (eC (.int 4)))) (gTupD 4 (gsCons (gVar 1) (gsCons (gVar 2) (gsCons (gVar 3) (gsCons (gVar 4) gsNil)))))) (sSeq (sIf (bNot (bTru (eApp (f_law_same 4) [(eApp f_meet [(eVar 1), (eVar 2), (eVar 3), (eVar 4)]), (eApp f_law_meet [(eSl (eVar 0) oNone (oSome (eC (.int 4))))])]))) (sRet (eC (.bl false))) sNext) (sSeq (sIf (bNot (bTru (eApp (f_law_same 4) [(eApp f_join [(eVar 1), (eVar 2), (eVar 3), (eVar 4)]), (eApp f_law_join [(eSl (eVar 0) oNone (oSome (eC (.int 4))))])]))) (sRet (eC (.bl false))) sNext) (sSeq (sAsg (eSl (eVar 0) (oSome (eC (.int 4))) oNone) (gTupD 4 (gsCons (gVar 5) (gsCons (gVar 6) (gsCons (gVar 7) (gsCons (gVar 8) gsNil)))))) (sSeq (sIf (bNot (bTru (eApp (f_law_same 4) [(eApp f_meet [(eVar 1), (eVar 2), (eVar 3), (eVar 4), (eVar 5), (eVar 6), (eVar 7), (eVar 8)]), (eApp f_law_meet [(eVar 0)])]))) (sRet (eC (.bl false))) sNext) (sRet (eApp (f_law_same 4) [(eApp f_join [(eVar 1), (eVar 2), (eVar 3), (eVar 4), (eVar 5), (eVar 6), (eVar 7), (eVar 8)]), (eApp f_law_join [(eVar 0)])])))))))
noncomputable def f_law_many : FN := defM false 1 9 b_law_many
theorem m_law_many : (cp 60).ss (gmOf txt T_21 s_law_many N_law_many (defScope (top 32))) (defBody (top 32)) = b_law_many := by kernel_rfl
theorem sc_law_many : FnScope N_law_many ["rooms"] (defScope (top 32)) := scB_ok (by decide +kernel)
noncomputable def T_22 : Tbl := ("_law_many", .fn f_law_many) :: T_21
/-! ### _law_outcome -/
def N_law_outcome : List Str := ["name", "rows", "e"]
def s_law_outcome : Sites := ⟨[], []⟩
noncomputable def b_law_outcome : SM := (sSeq (sTry (fun a b => txt.ex.lookup (a, b)) (sIf (bOf (eBin fEq (eVar 0) (eC (.str "free")))) (sExpr (eApp f_free_houses [(eBin fIx (eVar 1) (eC (.int 0)))])) (sIf (bOf (eBin fEq (eVar 0) (eC (.str "states")))) (sExpr (eApp f_states_of [(eBin fIx (eVar 1) (eC (.int 0)))])) (sIf (bOf (eBin fEq (eVar 0) (eC (.str "within")))) (sExpr (eApp f_lies_within [(eBin fIx (eVar 1) (eC (.int 0))), (eBin fIx (eVar 1) (eC (.int 1)))])) (sIf (bOf (eBin fEq (eVar 0) (eC (.str "meet")))) (sExpr (eApp f_meet [(eBin fIx (eVar 1) (eC (.int 0))), (eBin fIx (eVar 1) (eC (.int 1))), (eBin fIx (eVar 1) (eC (.int 2)))])) (sIf (bOf (eBin fEq (eVar 0) (eC (.str "join")))) (sExpr (eApp f_join [(eBin fIx (eVar 1) (eC (.int 0))), (eBin fIx (eVar 1) (eC (.int 1))), (eBin fIx (eVar 1) (eC (.int 2)))])) (sIf (bOf (eBin fEq (eVar 0) (eC (.str "late meet")))) (sExpr (eApp f_meet [(eBin fIx (eVar 1) (eC (.int 3))), (eBin fIx (eVar 1) (eC (.int 3))), (eBin fIx (eVar 1) (eC (.int 3))), (eBin fIx (eVar 1) (eC (.int 0))), (eBin fIx (eVar 1) (eC (.int 1))), (eBin fIx (eVar 1) (eC (.int 2)))])) (sExpr (eApp f_join [(eBin fIx (eVar 1) (eC (.int 3))), (eBin fIx (eVar 1) (eC (.int 3))), (eBin fIx (eVar 1) (eC (.int 3))), (eBin fIx (eVar 1) (eC (.int 0))), (eBin fIx (eVar 1) (eC (.int 1))), (eBin fIx (eVar 1) (eC (.int 2)))])))))))) [⟨"BadRoom", some 2, (sSeq (sIf (bOr (bNot (bTru (eIsX (fun a b => txt.kt.lookup (a, b)) 2 "BadArgument"))) (bNot (bTru (eIsX (fun a b => txt.kt.lookup (a, b)) 2 "OldNewsError")))) (sRet (eTup [(eC (.str "other"))])) sNext) (sRet (eTup [(eC (.str "bad")), (eXf (fun a b => txt.xok.contains (a, b)) 2 "row")])))⟩, ⟨"TooLarge", some 2, (sSeq (sIf (bOr (bTru (eIsX (fun a b => txt.kt.lookup (a, b)) 2 "BadArgument")) (bNot (bTru (eIsX (fun a b => txt.kt.lookup (a, b)) 2 "OldNewsError")))) (sRet (eTup [(eC (.str "other"))])) sNext) (sRet (eTup [(eC (.str "large")), (eXf (fun a b => txt.xok.contains (a, b)) 2 "count"), (eXf (fun a b => txt.xok.contains (a, b)) 2 "limit")])))⟩]) (sRet (eTup [(eC (.str "fine"))])))
noncomputable def f_law_outcome : FN := defM false 2 3 b_law_outcome
theorem m_law_outcome : (cp 60).ss (gmOf txt T_22 s_law_outcome N_law_outcome (defScope (top 33))) (defBody (top 33)) = b_law_outcome := by kernel_rfl
theorem sc_law_outcome : FnScope N_law_outcome ["name", "rows"] (defScope (top 33)) := scB_ok (by decide +kernel)
noncomputable def T_23 : Tbl := ("_law_outcome", .fn f_law_outcome) :: T_22
/-! ### _law_expected -/
def N_law_expected : List Str := ["name", "rows", "counts", "asked", "row", "mark"]
def s_law_expected : Sites := ⟨[(223, 23), (226, 27)], []⟩
noncomputable def b_law_expected : SM := (sSeq (sAsg (eDictN false [((eC (.str "free")), (eC (.int 1))), ((eC (.str "states")), (eC (.int 1))), ((eC (.str "within")), (eC (.int 2)))]) (gVar 2)) (sSeq (sAsg (eSl (eVar 1) oNone (oSome (eGet2 (eVar 2) (eVar 0) (eC (.int 3))))) (gVar 3)) (sSeq (sIf (bOf (eBin fIn (eVar 0) (eTup [(eC (.str "late meet")), (eC (.str "late join"))]))) (sAsg (eLst false [(eBin fIx (eVar 1) (eC (.int 3))), (eBin fIx (eVar 1) (eC (.int 3))), (eBin fIx (eVar 1) (eC (.int 3))), (eBin fIx (eVar 1) (eC (.int 0))), (eBin fIx (eVar 1) (eC (.int 1))), (eBin fIx (eVar 1) (eC (.int 2)))]) (gVar 3)) sNext) (sSeq (sIf (bOr (bOf (eBin fLt (eApp fLen [(eBin fIx (eVar 3) (eC (.int 0)))]) (eC (.int 1)))) (bOf (eBin fGt (eApp fLen [(eBin fIx (eVar 3) (eC (.int 0)))]) (eC (.int 12))))) (sRet (eTup [(eC (.str "bad")), (eApp fTupleK [(eBin fIx (eVar 3) (eC (.int 0)))])])) sNext) (sSeq (sFor (iPlain (eVar 3)) (gVar 4) (sIf (bOr (bOf (eBin fNe (eApp fLen [(eVar 4)]) (eApp fLen [(eBin fIx (eVar 3) (eC (.int 0)))]))) (bTru (eComp false (iPlain (eVar 4)) (gVar 5) (bOf (eBin fNotIn (eVar 5) (eTup [(eC (.int 0)), (eC (.int 1)), (eC (.int 2))]))) (eVar 5) [5]))) (sRet (eTup [(eC (.str "bad")), (eApp fTupleK [(eVar 4)])])) sNext) sNext) (sSeq (sIf (bAnd (bOf (eBin fEq (eVar 0) (eC (.str "states")))) (bOf (eBin fGt (eMeth2 (some fmCountL) (some fmCountT) (eBin fIx (eVar 1) (eC (.int 0))) [(eC (.int 2))]) (eC (.int 8))))) (sRet (eTup [(eC (.str "large")), (eMeth2 (some fmCountL) (some fmCountT) (eBin fIx (eVar 1) (eC (.int 0))) [(eC (.int 2))]), (eC (.int 8))])) sNext) (sRet (eTup [(eC (.str "fine"))]))))))))
noncomputable def f_law_expected : FN := defM false 2 6 b_law_expected
theorem m_law_expected : (cp 60).ss (gmOf txt T_23 s_law_expected N_law_expected (defScope (top 34))) (defBody (top 34)) = b_law_expected := by kernel_rfl
theorem sc_law_expected : FnScope N_law_expected ["name", "rows"] (defScope (top 34)) := scB_ok (by decide +kernel)
noncomputable def T_24 : Tbl := ("_law_expected", .fn f_law_expected) :: T_23
/-! ### _law_spoilt -/
def N_law_spoilt : List Str := ["row", "fault", "house", "number"]
def s_law_spoilt : Sites := ⟨[], []⟩
noncomputable def b_law_spoilt : SM := (sIf (bOf (eBin fEq (eVar 1) (eC (.int 0)))) (sAsg (eBin fAdd (eC (.int 3)) (eVar 3)) (gSubD (eVar 0) (eVar 2))) (sIf (bOf (eBin fEq (eVar 1) (eC (.int 1)))) (sAsg (eBin fSub (eUn fNeg (eC (.int 1))) (eVar 3)) (gSubD (eVar 0) (eVar 2))) (sIf (bOf (eBin fEq (eVar 1) (eC (.int 2)))) (sExpr (eMeth2 (some fmAppend) none (eVar 0) [(eBin fMod (eApp fInt [(eVar 3)]) (eC (.int 3)))])) (sIf (bOf (eBin fEq (eVar 1) (eC (.int 3)))) (sExpr (eMeth2 (some fmPop) none (eVar 0) [])) (sIf (bOf (eBin fEq (eVar 1) (eC (.int 4)))) (sExpr (eMeth2 (some fmClear) none (eVar 0) [])) sNext)))))
noncomputable def f_law_spoilt : FN := defM false 4 4 b_law_spoilt
theorem m_law_spoilt : (cp 60).ss (gmOf txt T_24 s_law_spoilt N_law_spoilt (defScope (top 35))) (defBody (top 35)) = b_law_spoilt := by kernel_rfl
theorem sc_law_spoilt : FnScope N_law_spoilt ["row", "fault", "house", "number"] (defScope (top 35)) := scB_ok (by decide +kernel)
noncomputable def T_25 : Tbl := ("_law_spoilt", .fn f_law_spoilt) :: T_24
/-! ### _law_limits_hold -/
def N_law_limits_hold : List Str := ["draws", "size", "room", "k", "row", "name"]
def s_law_limits_hold : Sites := ⟨[(246, 38), (253, 62)], [(243, 11)]⟩
noncomputable def b_law_limits_hold : SM := (sSeq (sAsg (eBin fAdd (eC (.int 9)) (eBin fIx (eVar 0) (eC (.int 0)))) (gVar 1)) (sSeq (sAsg (eBin fMulC (eLst false [(eC (.int 2))]) (eVar 1)) (gVar 2)) (sSeq (sFor (iRange [(eBin fSub (eVar 1) (eC (.int 8)))]) (gVar 3) (sAsg (eBin fIx (eVar 0) (eBin fAdd (eC (.int 2)) (eVar 3))) (gSubD (eVar 2) (eBin fMod (eApp fInt [(eBin fAdd (eBin fIx (eVar 0) (eC (.int 1))) (eVar 3))]) (eVar 1)))) sNext) (sSeq (sIf (bNot (bTru (eApp (f_law_same 4) [(eApp f_states_of [(eVar 2)]), (eApp fTupleK [(eApp f_law_states [(eVar 2)])])]))) (sRet (eC (.bl false))) sNext) (sSeq (sAsg (eC (.int 2)) (gSubD (eVar 2) (eBin fMod (eApp fInt [(eBin fIx (eVar 0) (eC (.int 1)))]) (eVar 1)))) (sSeq (sIf (bOr (bOf (eBin fNe (eApp f_law_outcome [(eC (.str "states")), (eLst false [(eVar 2)])]) (eTup [(eC (.str "large")), (eC (.int 9)), (eC (.int 8))]))) (bOf (eBin fNe (eApp f_law_outcome [(eC (.str "states")), (eLst false [(eBin fMul (eLst false [(eC (.int 2))]) (eVar 1))])]) (eTup [(eC (.str "large")), (eVar 1), (eC (.int 8))])))) (sRet (eC (.bl false))) sNext) (sSeq (sFor (iPlain (eLst false [(eBin fMul (eLst false [(eBin fIx (eVar 0) (eC (.int 7)))]) (eBin fAdd (eC (.int 13)) (eBin fIx (eVar 0) (eC (.int 6))))), (eLst false [])])) (gVar 4) (sFor (iPlain (eLst false [(eC (.str "free")), (eC (.str "states")), (eC (.str "within")), (eC (.str "meet")), (eC (.str "join"))])) (gVar 5) (sIf (bOf (eBin fNe (eApp f_law_outcome [(eVar 5), (eLst false [(eVar 4), (eVar 4), (eVar 4)])]) (eTup [(eC (.str "bad")), (eApp fTupleK [(eVar 4)])]))) (sRet (eC (.bl false))) sNext) sNext) sNext) (sRet (eC (.bl true))))))))))
noncomputable def f_law_limits_hold : FN := defM false 1 6 b_law_limits_hold
theorem m_law_limits_hold : (cp 60).ss (gmOf txt T_25 s_law_limits_hold N_law_limits_hold (defScope (top 36))) (defBody (top 36)) = b_law_limits_hold := by kernel_rfl
theorem sc_law_limits_hold : FnScope N_law_limits_hold ["draws"] (defScope (top 36)) := scB_ok (by decide +kernel)
noncomputable def T_26 : Tbl := ("_law_limits_hold", .fn f_law_limits_hold) :: T_25
/-! ### law -/
def N_law : List Str := ["script", "size", "rooms", "kept", "more", "later", "draws", "spoilt", "name", "room", "k"]
def s_law : Sites := ⟨[(259, 12), (265, 13), (266, 39), (272, 14), (276, 8)], []⟩
noncomputable def b_law : SM := (sSeq (sAsg (eBin fAdd (eC (.int 1)) (eBin fMod (eApp fInt [(eApp f_law_cell [(eVar 0), (eC (.int 0))])]) (eC (.int 12)))) (gVar 1)) (sSeq (sAsg (eApp f_law_rooms [(eVar 0), (eVar 1)]) (gVar 2)) (sSeq (sAsg (eComp false (iPlain (eVar 2)) (gVar 9) bYes (eApp fTupleK [(eVar 9)]) [9]) (gVar 3)) (sSeq (sIf (bNot (bTru (eApp f_law_lone_answers [(eVar 2)]))) (sRet (eC (.bl false))) sNext) (sSeq (sIf (bOr (bNot (bTru (eApp f_law_meets [(eBin fIx (eVar 2) (eC (.int 0))), (eBin fIx (eVar 2) (eC (.int 1))), (eBin fIx (eVar 2) (eC (.int 2)))]))) (bNot (bTru (eApp f_law_meets [(eBin fIx (eVar 2) (eC (.int 3))), (eBin fIx (eVar 2) (eC (.int 3))), (eBin fIx (eVar 2) (eC (.int 1)))])))) (sRet (eC (.bl false))) sNext) (sSeq (sAsg (eApp f_law_rooms [(eBin fAdd (eLst false [(eC (.int 0))]) (eComp false (iPlain (eTup [(eC (.int 1)), (eC (.int 2)), (eC (.int 8)), (eC (.int 9)), (eC (.int 10)), (eC (.int 6))])) (gVar 10) bYes (eApp f_law_cell [(eVar 0), (eVar 10)]) [10])), (eVar 1)]) (gVar 4)) (sSeq (sAsg (eComp false (iPlain (eVar 4)) (gVar 9) bYes (eApp fTupleK [(eVar 9)]) [9]) (gVar 5)) (sSeq (sIf (bOr (bNot (bTru (eApp f_law_many [(eBin fAdd (eVar 2) (eVar 4))]))) (bOf (eBin fNe (eComp false (iPlain (eBin fAdd (eVar 2) (eVar 4))) (gVar 9) bYes (eApp fTupleK [(eVar 9)]) [9]) (eBin fAdd (eVar 3) (eVar 5))))) (sRet (eC (.bl false))) sNext) (sSeq (sAsg (eApp f_law_draws [(eApp f_law_cell [(eVar 0), (eC (.int 7))]), (eLst false [(eC (.int 3)), (eC (.int 6)), (eVar 1), (eC (.int 50)), (eC (.int 4)), (eC (.int 3)), (eC (.int 6)), (eVar 1), (eC (.int 50))])]) (gVar 6)) (sSeq (sExpr (eApp f_law_spoilt [(eBin fIx (eVar 2) (eBin fIx (eVar 6) (eC (.int 0)))), (eBin fIx (eVar 6) (eC (.int 1))), (eBin fIx (eVar 6) (eC (.int 2))), (eBin fIx (eVar 6) (eC (.int 3)))])) (sSeq (sIf (bAnd (bOf (eBin fEq (eBin fIx (eVar 6) (eC (.int 4))) (eC (.int 0)))) (bOf (eBin fNe (eBin fIx (eVar 6) (eC (.int 5))) (eBin fIx (eVar 6) (eC (.int 0)))))) (sExpr (eApp f_law_spoilt [(eBin fIx (eVar 2) (eBin fIx (eVar 6) (eC (.int 5)))), (eBin fIx (eVar 6) (eC (.int 6))), (eBin fIx (eVar 6) (eC (.int 7))), (eBin fIx (eVar 6) (eC (.int 8)))])) sNext) (sSeq (sAsg (eComp false (iPlain (eVar 2)) (gVar 9) bYes (eApp fTupleK [(eVar 9)]) [9]) (gVar 7)) (sSeq (sFor (iPlain (eLst false [(eC (.str "free")), (eC (.str "states")), (eC (.str "within")), (eC (.str "meet")), (eC (.str "join")), (eC (.str "late meet")), (eC (.str "late join"))])) (gVar 8) (sIf (bOf (eBin fNe (eApp f_law_outcome [(eVar 8), (eVar 2)]) (eApp f_law_expected [(eVar 8), (eVar 2)]))) (sRet (eC (.bl false))) sNext) sNext) (sSeq (sIf (bOf (eBin fNe (eComp false (iPlain (eVar 2)) (gVar 9) bYes (eApp fTupleK [(eVar 9)]) [9]) (eVar 7))) (sRet (eC (.bl false))) sNext) (sSeq (sIf (bNot (bTru (eApp f_law_limits_hold [(eApp f_law_draws [(eApp f_law_cell [(eVar 0), (eC (.int 11))]), (eLst false [(eC (.int 4)), (eC (.int 12)), (eC (.int 2)), (eC (.int 2)), (eC (.int 2)), (eC (.int 2)), (eC (.int 4)), (eC (.int 3))])])]))) (sRet (eC (.bl false))) sNext) (sRet (eAnd (eApp f_law_lone_answers [(eVar 3)]) (eAnd (eApp f_law_meets [(eBin fIx (eVar 3) (eC (.int 0))), (eBin fIx (eVar 3) (eC (.int 1))), (eBin fIx (eVar 3) (eC (.int 2)))]) (eApp f_law_many [(eBin fAdd (eVar 3) (eVar 5))])))))))))))))))))))
noncomputable def f_law : FN := defM false 1 11 b_law
theorem m_law : (cp 60).ss (gmOf txt T_26 s_law N_law (defScope (top 37))) (defBody (top 37)) = b_law := by kernel_rfl
theorem sc_law : FnScope N_law ["script"] (defScope (top 37)) := scB_ok (by decide +kernel)
noncomputable def T_27 : Tbl := ("law", .fn f_law) :: T_26
/-! ### the head -/
def d_as_room : He.DefD := ⟨("as_room", none), "as_room", "as_room", defArgs (top 7), defBody (top 7), defScope (top 7), [], []⟩
def d_as_lone_room : He.DefD := ⟨("as_lone_room", none), "as_lone_room", "as_lone_room", defArgs (top 8), defBody (top 8), defScope (top 8), [], []⟩
def d_need_at_most : He.DefD := ⟨("need_at_most", none), "need_at_most", "need_at_most", defArgs (top 9), defBody (top 9), defScope (top 9), [], []⟩
def d_free_houses : He.DefD := ⟨("free_houses", none), "free_houses", "free_houses", defArgs (top 13), defBody (top 13), defScope (top 13), [], []⟩
def d_states_of : He.DefD := ⟨("states_of", none), "states_of", "states_of", defArgs (top 14), defBody (top 14), defScope (top 14), [], []⟩
def d_is_inside : He.DefD := ⟨("is_inside", none), "is_inside", "is_inside", defArgs (top 15), defBody (top 15), defScope (top 15), [], []⟩
def d_lies_within : He.DefD := ⟨("lies_within", none), "lies_within", "lies_within", defArgs (top 16), defBody (top 16), defScope (top 16), [], []⟩
def d_same_sized : He.DefD := ⟨("same_sized", none), "same_sized", "same_sized", defArgs (top 17), defBody (top 17), defScope (top 17), [], []⟩
def d_meet : He.DefD := ⟨("meet", none), "meet", "meet", defArgs (top 18), defBody (top 18), defScope (top 18), [], []⟩
def d_join : He.DefD := ⟨("join", none), "join", "join", defArgs (top 19), defBody (top 19), defScope (top 19), [], []⟩
def d_law_cell : He.DefD := ⟨("_law_cell", none), "_law_cell", "_law_cell", defArgs (top 21), defBody (top 21), defScope (top 21), [], []⟩
def d_law_draws : He.DefD := ⟨("_law_draws", none), "_law_draws", "_law_draws", defArgs (top 22), defBody (top 22), defScope (top 22), [], []⟩
def d_law_rooms : He.DefD := ⟨("_law_rooms", none), "_law_rooms", "_law_rooms", defArgs (top 23), defBody (top 23), defScope (top 23), [], []⟩
def d_law_states : He.DefD := ⟨("_law_states", none), "_law_states", "_law_states", defArgs (top 24), defBody (top 24), defScope (top 24), [], []⟩
def d_law_inside : He.DefD := ⟨("_law_inside", none), "_law_inside", "_law_inside", defArgs (top 25), defBody (top 25), defScope (top 25), [], []⟩
def d_law_meet : He.DefD := ⟨("_law_meet", none), "_law_meet", "_law_meet", defArgs (top 26), defBody (top 26), defScope (top 26), [], []⟩
def d_law_join : He.DefD := ⟨("_law_join", none), "_law_join", "_law_join", defArgs (top 27), defBody (top 27), defScope (top 27), [], []⟩
def d_law_truth : He.DefD := ⟨("_law_truth", none), "_law_truth", "_law_truth", defArgs (top 28), defBody (top 28), defScope (top 28), [], []⟩
def d_law_same : He.DefD := ⟨("_law_same", none), "_law_same", "_law_same", defArgs (top 29), defBody (top 29), defScope (top 29), [], []⟩
def d_law_lone_answers : He.DefD := ⟨("_law_lone_answers", none), "_law_lone_answers", "_law_lone_answers", defArgs (top 30), defBody (top 30), defScope (top 30), [], []⟩
def d_law_meets : He.DefD := ⟨("_law_meets", none), "_law_meets", "_law_meets", defArgs (top 31), defBody (top 31), defScope (top 31), [], []⟩
def d_law_many : He.DefD := ⟨("_law_many", none), "_law_many", "_law_many", defArgs (top 32), defBody (top 32), defScope (top 32), [], []⟩
def d_law_outcome : He.DefD := ⟨("_law_outcome", none), "_law_outcome", "_law_outcome", defArgs (top 33), defBody (top 33), defScope (top 33), [], []⟩
def d_law_expected : He.DefD := ⟨("_law_expected", none), "_law_expected", "_law_expected", defArgs (top 34), defBody (top 34), defScope (top 34), [], []⟩
def d_law_spoilt : He.DefD := ⟨("_law_spoilt", none), "_law_spoilt", "_law_spoilt", defArgs (top 35), defBody (top 35), defScope (top 35), [], []⟩
def d_law_limits_hold : He.DefD := ⟨("_law_limits_hold", none), "_law_limits_hold", "_law_limits_hold", defArgs (top 36), defBody (top 36), defScope (top 36), [], []⟩
def d_law : He.DefD := ⟨("law", none), "law", "law", defArgs (top 37), defBody (top 37), defScope (top 37), [], []⟩
def hd : Hd := ⟨[.glo "OldNewsError", .glo "BadArgument", .int "MOST_HOUSES" 12, .int "FREE" 2, .int "MOST_FREE" 8, .glo "as_room", .glo "as_lone_room", .glo "need_at_most", .glo "free_houses", .glo "states_of", .glo "is_inside", .glo "lies_within", .glo "same_sized", .glo "meet", .glo "join", .glo "_law_cell", .glo "_law_draws", .glo "_law_rooms", .glo "_law_states", .glo "_law_inside", .glo "_law_meet", .glo "_law_join", .glo "_law_truth", .glo "_law_same", .glo "_law_lone_answers", .glo "_law_meets", .glo "_law_many", .glo "_law_outcome", .glo "_law_expected", .glo "_law_spoilt", .glo "_law_limits_hold", .glo "law"], [d_as_room, d_as_lone_room, d_need_at_most, d_free_houses, d_states_of, d_is_inside, d_lies_within, d_same_sized, d_meet, d_join, d_law_cell, d_law_draws, d_law_rooms, d_law_states, d_law_inside, d_law_meet, d_law_join, d_law_truth, d_law_same, d_law_lone_answers, d_law_meets, d_law_many, d_law_outcome, d_law_expected, d_law_spoilt, d_law_limits_hold, d_law], [⟨"BadRoom", ["row"], ini 3 0⟩, ⟨"TooLarge", ["count", "limit"], ini 4 0⟩], "/claim/cut.py", txt⟩
abbrev rowR : PySem.W.OpenRow := PySem.W.OpenLaw.row PySem.Challenge.rw_signsandrests_k02_rooms_meet_and_join
abbrev hk : PySem.W.Hook := hd.hook 6
def ob (s : PySem.W.SharedT) : AlE := hd.obsG 6 (HandSHeadRun.getT s)
theorem ob_eq (s : PySem.W.SharedT) : ob s = hk.obs s.abs := Hd.obsG_eq (HandSHeadRun.getT_eq s)
def loose : List Str := (([("OldNewsError" : Str), ("ValueError" : Str), ("BadArgument" : Str), ("BadRoom" : Str), ("TooLarge" : Str), ("MOST_HOUSES" : Str), ("as_room" : Str), ("as_lone_room" : Str), ("need_at_most" : Str), ("FREE" : Str), ("MOST_FREE" : Str), ("free_houses" : Str), ("states_of" : Str), ("is_inside" : Str), ("lies_within" : Str), ("same_sized" : Str), ("meet" : Str), ("join" : Str), ("_law_cell" : Str), ("_law_draws" : Str), ("_law_rooms" : Str), ("_law_states" : Str), ("_law_inside" : Str), ("_law_meet" : Str), ("_law_join" : Str), ("_law_truth" : Str), ("_law_same" : Str), ("_law_lone_answers" : Str), ("_law_meets" : Str), ("_law_many" : Str), ("_law_outcome" : Str), ("_law_expected" : Str), ("_law_spoilt" : Str), ("_law_limits_hold" : Str)]) : List Str)
theorem run (w : World) : HandSHeadRun.RunEq rowR (PySem.W.view rowR.prog [37]) hk ob 4000 loose w := by
  intro os
  kernel_rfl
section
variable {w : World} {K : PySem.W.Frag} {h : Heap} {mg : Str → Option Value} {base : Heap}
theorem x_BadRoom (X : K.In h) (G : h.Ns mainGlobals mg) (c : hd.Says K) : GlobK PySem.Challenge.pw_signsandrests_k02_rooms_meet_and_join w K mg base 2 "BadRoom" (.exc "BadRoom" ["row"]) := by
  have e := c.exc 0 (x := ⟨"BadRoom", ["row"], ini 3 0⟩) rfl
  exact glob_exc (file := "/claim/cut.py") (d := ⟨"BadRoom", ["row"], ini 3 0⟩) (N := ["self", "row", "__class__"]) (ps := ["self", "row"]) X G e.1 e.2 rfl (by decide +kernel) ((c.txt X G).blt "super" (by decide +kernel)) ⟨_, rfl, rfl⟩ (by decide +kernel) rfl (by decide +kernel)
    (fun _ _ _ _ _ _ _ us hl => match us, hl with | [u0, u1], _ => rfl) rfl (fun _ => rfl) (l := [("row", 1)]) (by decide +kernel) rfl rfl rfl (by decide) (by decide) (by decide +kernel)
theorem x_TooLarge (X : K.In h) (G : h.Ns mainGlobals mg) (c : hd.Says K) : GlobK PySem.Challenge.pw_signsandrests_k02_rooms_meet_and_join w K mg base 2 "TooLarge" (.exc "TooLarge" ["count", "limit"]) := by
  have e := c.exc 1 (x := ⟨"TooLarge", ["count", "limit"], ini 4 0⟩) rfl
  exact glob_exc (file := "/claim/cut.py") (d := ⟨"TooLarge", ["count", "limit"], ini 4 0⟩) (N := ["self", "count", "limit", "__class__"]) (ps := ["self", "count", "limit"]) X G e.1 e.2 rfl (by decide +kernel) ((c.txt X G).blt "super" (by decide +kernel)) ⟨_, rfl, rfl⟩ (by decide +kernel) rfl (by decide +kernel)
    (fun _ _ _ _ _ _ _ us hl => match us, hl with | [u0, u1, u2], _ => rfl) rfl (fun _ => rfl) (l := [("count", 1), ("limit", 2)]) (by decide +kernel) rfl rfl rfl (by decide) (by decide) (by decide +kernel)
theorem t_0 (X : K.In h) (G : h.Ns mainGlobals mg) (c : hd.Says K) : Tbl.Ok PySem.Challenge.pw_signsandrests_k02_rooms_meet_and_join w K mg base 2 T_0 := Tbl.cons (glob_cls X G (c.fact 0 rfl)) (Tbl.cons (glob_cls X G (c.fact 1 rfl)) (Tbl.cons (x_BadRoom X G c) (Tbl.cons (x_TooLarge X G c) (Tbl.cons (glob_int X G (c.fact 2 rfl)) (Tbl.cons (glob_int X G (c.fact 3 rfl)) (Tbl.cons (glob_int X G (c.fact 4 rfl)) (Tbl.nil)))))))
theorem t_1 (X : K.In h) (G : h.Ns mainGlobals mg) (c : hd.Says K) : Tbl.Ok PySem.Challenge.pw_signsandrests_k02_rooms_meet_and_join w K mg base 3 T_1 := Tbl.step (t_0 X G c) fun t => by
  obtain ⟨fd, F⟩ := c.def_ 0 (f := d_as_room) rfl
  exact glob_def (ps := ["size", "row"]) 60 2 3 F (He.glo_ok X G (c.fact 5 rfl)) sc_as_room (fun _ _ _ _ _ _ us hl => match us, hl with | [u0, u1], _ => rfl) rfl rfl m_as_room (c.txt X G) t
theorem t_2 (X : K.In h) (G : h.Ns mainGlobals mg) (c : hd.Says K) : Tbl.Ok PySem.Challenge.pw_signsandrests_k02_rooms_meet_and_join w K mg base 4 T_2 := Tbl.step (t_1 X G c) fun t => by
  obtain ⟨fd, F⟩ := c.def_ 1 (f := d_as_lone_room) rfl
  exact glob_def (ps := ["row"]) 60 1 1 F (He.glo_ok X G (c.fact 6 rfl)) sc_as_lone_room (fun _ _ _ _ _ _ us hl => match us, hl with | [u0], _ => rfl) rfl rfl m_as_lone_room (c.txt X G) t
theorem t_3 (X : K.In h) (G : h.Ns mainGlobals mg) (c : hd.Says K) : Tbl.Ok PySem.Challenge.pw_signsandrests_k02_rooms_meet_and_join w K mg base 5 T_3 := Tbl.step (t_2 X G c) fun t => by
  obtain ⟨fd, F⟩ := c.def_ 2 (f := d_need_at_most) rfl
  exact glob_def (ps := ["count", "limit"]) 60 2 2 F (He.glo_ok X G (c.fact 7 rfl)) sc_need_at_most (fun _ _ _ _ _ _ us hl => match us, hl with | [u0, u1], _ => rfl) rfl rfl m_need_at_most (c.txt X G) t
theorem t_4 (X : K.In h) (G : h.Ns mainGlobals mg) (c : hd.Says K) : Tbl.Ok PySem.Challenge.pw_signsandrests_k02_rooms_meet_and_join w K mg base 6 T_4 := Tbl.step (t_3 X G c) fun t => by
  obtain ⟨fd, F⟩ := c.def_ 3 (f := d_free_houses) rfl
  exact glob_def (ps := ["room"]) 60 1 3 F (He.glo_ok X G (c.fact 8 rfl)) sc_free_houses (fun _ _ _ _ _ _ us hl => match us, hl with | [u0], _ => rfl) rfl rfl m_free_houses (c.txt X G) t
theorem t_5 (X : K.In h) (G : h.Ns mainGlobals mg) (c : hd.Says K) : Tbl.Ok PySem.Challenge.pw_signsandrests_k02_rooms_meet_and_join w K mg base 7 T_5 := Tbl.step (t_4 X G c) fun t => by
  obtain ⟨fd, F⟩ := c.def_ 4 (f := d_states_of) rfl
  exact glob_def (ps := ["room"]) 60 1 6 F (He.glo_ok X G (c.fact 9 rfl)) sc_states_of (fun _ _ _ _ _ _ us hl => match us, hl with | [u0], _ => rfl) rfl rfl m_states_of (c.txt X G) t
theorem t_6 (X : K.In h) (G : h.Ns mainGlobals mg) (c : hd.Says K) : Tbl.Ok PySem.Challenge.pw_signsandrests_k02_rooms_meet_and_join w K mg base 8 T_6 := Tbl.step (t_5 X G c) fun t => by
  obtain ⟨fd, F⟩ := c.def_ 5 (f := d_is_inside) rfl
  exact glob_def (ps := ["room", "other"]) 60 2 4 F (He.glo_ok X G (c.fact 10 rfl)) sc_is_inside (fun _ _ _ _ _ _ us hl => match us, hl with | [u0, u1], _ => rfl) rfl rfl m_is_inside (c.txt X G) t
theorem t_7 (X : K.In h) (G : h.Ns mainGlobals mg) (c : hd.Says K) : Tbl.Ok PySem.Challenge.pw_signsandrests_k02_rooms_meet_and_join w K mg base 9 T_7 := Tbl.step (t_6 X G c) fun t => by
  obtain ⟨fd, F⟩ := c.def_ 6 (f := d_lies_within) rfl
  exact glob_def (ps := ["room", "other"]) 60 2 2 F (He.glo_ok X G (c.fact 11 rfl)) sc_lies_within (fun _ _ _ _ _ _ us hl => match us, hl with | [u0, u1], _ => rfl) rfl rfl m_lies_within (c.txt X G) t
theorem t_8 (X : K.In h) (G : h.Ns mainGlobals mg) (c : hd.Says K) : Tbl.Ok PySem.Challenge.pw_signsandrests_k02_rooms_meet_and_join w K mg base 10 T_8 := Tbl.step (t_7 X G c) fun t => by
  obtain ⟨fd, F⟩ := c.def_ 7 (f := d_same_sized) rfl
  exact glob_def (ps := ["first", "others"]) 60 2 4 F (He.glo_ok X G (c.fact 12 rfl)) sc_same_sized (fun _ _ _ _ _ _ us hl => match us, hl with | [u0, u1], _ => rfl) rfl rfl m_same_sized (c.txt X G) t
theorem t_9 (X : K.In h) (G : h.Ns mainGlobals mg) (c : hd.Says K) : Tbl.Ok PySem.Challenge.pw_signsandrests_k02_rooms_meet_and_join w K mg base 11 T_9 := Tbl.step (t_8 X G c) fun t => by
  obtain ⟨fd, F⟩ := c.def_ 8 (f := d_meet) rfl
  exact glob_star (pv := "others") (ps := ["first"]) 60 1 7 F (He.glo_ok X G (c.fact 13 rfl)) sc_meet (fun _ _ _ _ _ _ => bind_star1 (B := fun us => bindArgs _ ⟨us, []⟩) (fun _ => rfl) (fun _ _ _ => rfl)) rfl rfl m_meet (c.txt X G) t
theorem t_10 (X : K.In h) (G : h.Ns mainGlobals mg) (c : hd.Says K) : Tbl.Ok PySem.Challenge.pw_signsandrests_k02_rooms_meet_and_join w K mg base 12 T_10 := Tbl.step (t_9 X G c) fun t => by
  obtain ⟨fd, F⟩ := c.def_ 9 (f := d_join) rfl
  exact glob_star (pv := "others") (ps := ["first"]) 60 1 7 F (He.glo_ok X G (c.fact 14 rfl)) sc_join (fun _ _ _ _ _ _ => bind_star1 (B := fun us => bindArgs _ ⟨us, []⟩) (fun _ => rfl) (fun _ _ _ => rfl)) rfl rfl m_join (c.txt X G) t
theorem t_11 (X : K.In h) (G : h.Ns mainGlobals mg) (c : hd.Says K) : Tbl.Ok PySem.Challenge.pw_signsandrests_k02_rooms_meet_and_join w K mg base 13 T_11 := Tbl.step (t_10 X G c) fun t => by
  obtain ⟨fd, F⟩ := c.def_ 10 (f := d_law_cell) rfl
  exact glob_def (ps := ["script", "k"]) 60 2 2 F (He.glo_ok X G (c.fact 15 rfl)) sc_law_cell (fun _ _ _ _ _ _ us hl => match us, hl with | [u0, u1], _ => rfl) rfl rfl m_law_cell (c.txt X G) t
theorem t_12 (X : K.In h) (G : h.Ns mainGlobals mg) (c : hd.Says K) : Tbl.Ok PySem.Challenge.pw_signsandrests_k02_rooms_meet_and_join w K mg base 14 T_12 := Tbl.step (t_11 X G c) fun t => by
  obtain ⟨fd, F⟩ := c.def_ 11 (f := d_law_draws) rfl
  exact glob_def (ps := ["cell", "sizes"]) 60 2 6 F (He.glo_ok X G (c.fact 16 rfl)) sc_law_draws (fun _ _ _ _ _ _ us hl => match us, hl with | [u0, u1], _ => rfl) rfl rfl m_law_draws (c.txt X G) t
theorem t_13 (X : K.In h) (G : h.Ns mainGlobals mg) (c : hd.Says K) : Tbl.Ok PySem.Challenge.pw_signsandrests_k02_rooms_meet_and_join w K mg base 15 T_13 := Tbl.step (t_12 X G c) fun t => by
  obtain ⟨fd, F⟩ := c.def_ 12 (f := d_law_rooms) rfl
  exact glob_def (ps := ["script", "size"]) 60 2 11 F (He.glo_ok X G (c.fact 17 rfl)) sc_law_rooms (fun _ _ _ _ _ _ us hl => match us, hl with | [u0, u1], _ => rfl) rfl rfl m_law_rooms (c.txt X G) t
theorem t_14 (X : K.In h) (G : h.Ns mainGlobals mg) (c : hd.Says K) : Tbl.Ok PySem.Challenge.pw_signsandrests_k02_rooms_meet_and_join w K mg base 16 T_14 := Tbl.step (t_13 X G c) fun t => by
  obtain ⟨fd, F⟩ := c.def_ 13 (f := d_law_states) rfl
  exact glob_def (ps := ["room"]) 60 1 7 F (He.glo_ok X G (c.fact 18 rfl)) sc_law_states (fun _ _ _ _ _ _ us hl => match us, hl with | [u0], _ => rfl) rfl rfl m_law_states (c.txt X G) t
theorem t_15 (X : K.In h) (G : h.Ns mainGlobals mg) (c : hd.Says K) : Tbl.Ok PySem.Challenge.pw_signsandrests_k02_rooms_meet_and_join w K mg base 17 T_15 := Tbl.step (t_14 X G c) fun t => by
  obtain ⟨fd, F⟩ := c.def_ 14 (f := d_law_inside) rfl
  exact glob_def (ps := ["room", "other"]) 60 2 3 F (He.glo_ok X G (c.fact 19 rfl)) sc_law_inside (fun _ _ _ _ _ _ us hl => match us, hl with | [u0, u1], _ => rfl) rfl rfl m_law_inside (c.txt X G) t
theorem t_16 (X : K.In h) (G : h.Ns mainGlobals mg) (c : hd.Says K) : Tbl.Ok PySem.Challenge.pw_signsandrests_k02_rooms_meet_and_join w K mg base 18 T_16 := Tbl.step (t_15 X G c) fun t => by
  obtain ⟨fd, F⟩ := c.def_ 15 (f := d_law_meet) rfl
  exact glob_def (ps := ["rooms"]) 60 1 5 F (He.glo_ok X G (c.fact 20 rfl)) sc_law_meet (fun _ _ _ _ _ _ us hl => match us, hl with | [u0], _ => rfl) rfl rfl m_law_meet (c.txt X G) t
theorem t_17 (X : K.In h) (G : h.Ns mainGlobals mg) (c : hd.Says K) : Tbl.Ok PySem.Challenge.pw_signsandrests_k02_rooms_meet_and_join w K mg base 19 T_17 := Tbl.step (t_16 X G c) fun t => by
  obtain ⟨fd, F⟩ := c.def_ 16 (f := d_law_join) rfl
  exact glob_def (ps := ["rooms"]) 60 1 5 F (He.glo_ok X G (c.fact 21 rfl)) sc_law_join (fun _ _ _ _ _ _ us hl => match us, hl with | [u0], _ => rfl) rfl rfl m_law_join (c.txt X G) t
theorem t_18 (X : K.In h) (G : h.Ns mainGlobals mg) (c : hd.Says K) : Tbl.Ok PySem.Challenge.pw_signsandrests_k02_rooms_meet_and_join w K mg base 20 T_18 := Tbl.step (t_17 X G c) fun t => by
  obtain ⟨fd, F⟩ := c.def_ 17 (f := d_law_truth) rfl
  exact glob_def (ps := ["actual", "expected"]) 60 2 2 F (He.glo_ok X G (c.fact 22 rfl)) sc_law_truth (fun _ _ _ _ _ _ us hl => match us, hl with | [u0, u1], _ => rfl) rfl rfl m_law_truth (c.txt X G) t
theorem r_law_same (X : K.In h) (G : h.Ns mainGlobals mg) (c : hd.Says K) : ∀ k, GlobK PySem.Challenge.pw_signsandrests_k02_rooms_meet_and_join w K mg base (20 + k) "_law_same" (.fn (f_law_same k))
  | 0 => by
    obtain ⟨fd, F⟩ := c.def_ 18 (f := d_law_same) rfl
    exact ⟨_, He.glo_ok X G (c.fact 23 rfl), F.kp, fnD_no⟩
  | k + 1 => by
    obtain ⟨fd, F⟩ := c.def_ 18 (f := d_law_same) rfl
    exact glob_def (ps := ["actual", "expected"]) 60 2 3 F (He.glo_ok X G (c.fact 23 rfl)) sc_law_same (fun _ _ _ _ _ _ us hl => match us, hl with | [u0, u1], _ => rfl) rfl rfl (m_law_same _) (c.txt X G) (Tbl.cons (r_law_same X G c k) fun p hp => (t_18 X G c p hp).le (Nat.le_add_right _ _))
theorem t_19 (X : K.In h) (G : h.Ns mainGlobals mg) (c : hd.Says K) : Tbl.Ok PySem.Challenge.pw_signsandrests_k02_rooms_meet_and_join w K mg base 24 T_19 := Tbl.cons (r_law_same X G c 4) fun p hp => (t_18 X G c p hp).le (by decide)
theorem t_20 (X : K.In h) (G : h.Ns mainGlobals mg) (c : hd.Says K) : Tbl.Ok PySem.Challenge.pw_signsandrests_k02_rooms_meet_and_join w K mg base 25 T_20 := Tbl.step (t_19 X G c) fun t => by
  obtain ⟨fd, F⟩ := c.def_ 19 (f := d_law_lone_answers) rfl
  exact glob_def (ps := ["rooms"]) 60 1 5 F (He.glo_ok X G (c.fact 24 rfl)) sc_law_lone_answers (fun _ _ _ _ _ _ us hl => match us, hl with | [u0], _ => rfl) rfl rfl m_law_lone_answers (c.txt X G) t
theorem t_21 (X : K.In h) (G : h.Ns mainGlobals mg) (c : hd.Says K) : Tbl.Ok PySem.Challenge.pw_signsandrests_k02_rooms_meet_and_join w K mg base 26 T_21 := Tbl.step (t_20 X G c) fun t => by
  obtain ⟨fd, F⟩ := c.def_ 20 (f := d_law_meets) rfl
  exact glob_def (ps := ["first", "second", "third"]) 60 3 6 F (He.glo_ok X G (c.fact 25 rfl)) sc_law_meets (fun _ _ _ _ _ _ us hl => match us, hl with | [u0, u1, u2], _ => rfl) rfl rfl m_law_meets (c.txt X G) t
theorem t_22 (X : K.In h) (G : h.Ns mainGlobals mg) (c : hd.Says K) : Tbl.Ok PySem.Challenge.pw_signsandrests_k02_rooms_meet_and_join w K mg base 27 T_22 := Tbl.step (t_21 X G c) fun t => by
  obtain ⟨fd, F⟩ := c.def_ 21 (f := d_law_many) rfl
  exact glob_def (ps := ["rooms"]) 60 1 9 F (He.glo_ok X G (c.fact 26 rfl)) sc_law_many (fun _ _ _ _ _ _ us hl => match us, hl with | [u0], _ => rfl) rfl rfl m_law_many (c.txt X G) t
theorem t_23 (X : K.In h) (G : h.Ns mainGlobals mg) (c : hd.Says K) : Tbl.Ok PySem.Challenge.pw_signsandrests_k02_rooms_meet_and_join w K mg base 28 T_23 := Tbl.step (t_22 X G c) fun t => by
  obtain ⟨fd, F⟩ := c.def_ 22 (f := d_law_outcome) rfl
  exact glob_def (ps := ["name", "rows"]) 60 2 3 F (He.glo_ok X G (c.fact 27 rfl)) sc_law_outcome (fun _ _ _ _ _ _ us hl => match us, hl with | [u0, u1], _ => rfl) rfl rfl m_law_outcome (c.txt X G) t
theorem t_24 (X : K.In h) (G : h.Ns mainGlobals mg) (c : hd.Says K) : Tbl.Ok PySem.Challenge.pw_signsandrests_k02_rooms_meet_and_join w K mg base 29 T_24 := Tbl.step (t_23 X G c) fun t => by
  obtain ⟨fd, F⟩ := c.def_ 23 (f := d_law_expected) rfl
  exact glob_def (ps := ["name", "rows"]) 60 2 6 F (He.glo_ok X G (c.fact 28 rfl)) sc_law_expected (fun _ _ _ _ _ _ us hl => match us, hl with | [u0, u1], _ => rfl) rfl rfl m_law_expected (c.txt X G) t
theorem t_25 (X : K.In h) (G : h.Ns mainGlobals mg) (c : hd.Says K) : Tbl.Ok PySem.Challenge.pw_signsandrests_k02_rooms_meet_and_join w K mg base 30 T_25 := Tbl.step (t_24 X G c) fun t => by
  obtain ⟨fd, F⟩ := c.def_ 24 (f := d_law_spoilt) rfl
  exact glob_def (ps := ["row", "fault", "house", "number"]) 60 4 4 F (He.glo_ok X G (c.fact 29 rfl)) sc_law_spoilt (fun _ _ _ _ _ _ us hl => match us, hl with | [u0, u1, u2, u3], _ => rfl) rfl rfl m_law_spoilt (c.txt X G) t
theorem t_26 (X : K.In h) (G : h.Ns mainGlobals mg) (c : hd.Says K) : Tbl.Ok PySem.Challenge.pw_signsandrests_k02_rooms_meet_and_join w K mg base 31 T_26 := Tbl.step (t_25 X G c) fun t => by
  obtain ⟨fd, F⟩ := c.def_ 25 (f := d_law_limits_hold) rfl
  exact glob_def (ps := ["draws"]) 60 1 6 F (He.glo_ok X G (c.fact 30 rfl)) sc_law_limits_hold (fun _ _ _ _ _ _ us hl => match us, hl with | [u0], _ => rfl) rfl rfl m_law_limits_hold (c.txt X G) t
theorem facts (X : K.In h) (G : h.Ns mainGlobals mg) {f : Addr} (hfa : mg "law" = some (.ref f)) (c : hd.Says K) :
    ∃ fd : FuncData, (∀ (s : Shared) (v : Value), BindsTo s fd ⟨[v], []⟩ [("script", v)]) ∧ ∀ base : Heap, K.In base → base.Ns mainGlobals mg → FnOk PySem.Challenge.pw_signsandrests_k02_rooms_meet_and_join w K mg base (CXany PySem.Challenge.pw_signsandrests_k02_rooms_meet_and_join) 32 f fd ["script"] (spD K f_law) := by
  obtain ⟨fd, F⟩ := c.def_ 26 (f := d_law) rfl
  have e := hfa.symm.trans (He.glo_ok X G (c.fact 31 rfl))
  cases e
  have b := FunD.bindsA (ps := ["script"]) F fun _ _ _ _ _ _ us hl => match us, hl with | [u0], _ => rfl
  exact ⟨fd, fun s v => b s [v] rfl, fun base _ _ => law_def (k := 31) 60 1 11 F sc_law rfl rfl m_law (c.txt X G) (t_26 X G c)⟩
end
end K02
open PySem PySem.W PySem.Calls PyProof.Rows in
theorem K02.holds_of (law : ∀ ns : List Int, ns.length ≤ 63 → ∃ S, K02.f_law [.scr (ns.map .int)] [] = .ok (.bl true) S) : PySem.Challenge.rw_signsandrests_k02_rooms_meet_and_join.Holds := by
  w_on; o_law
  refine HandSHeadRun.head_any (r := OpenLaw.row PySem.Challenge.rw_signsandrests_k02_rooms_meet_and_join) (q := view (OpenLaw.row PySem.Challenge.rw_signsandrests_k02_rooms_meet_and_join).prog [37]) (H := K02.hk) (ob := K02.ob) (M := 4000) (loose := K02.loose) (d := HandSHeadRun.topDef (OpenLaw.row PySem.Challenge.rw_signsandrests_k02_rooms_meet_and_join).prog 37) (kwd := []) K02.ob_eq
    (by kernel_rfl) (fun s => by kernel_rfl) K02.run (by kernel_rfl) (by kernel_rfl) (by kernel_rfl) (by rfl) (by first | assumption | decide +kernel) (by decide +kernel) ⟨rfl, rfl, rfl, rfl, rfl, by decide +kernel⟩ ?hw ?hc
  case hw => w_witness2
  case hc =>
    refine L2.walk_ofE (l := PySem.Challenge.rw_signsandrests_k02_rooms_meet_and_join) (n := 63) (k := 32) (x := "script") (CX := EV.CXany PySem.Challenge.pw_signsandrests_k02_rooms_meet_and_join) rfl (by decide) (by kernel_rfl) ⟨rfl, by decide, by decide⟩ ?F EV.cxany_none
    intro w mg fa h Y G hmg0
    obtain ⟨K, KX, c⟩ := Y
    have hmg : mg ("law" : PySem.Str) = some (.ref fa) := by
      have e : (HandSHeadRun.topDef (OpenLaw.row PySem.Challenge.rw_signsandrests_k02_rooms_meet_and_join).prog 37).name = ("law" : PySem.Str) := by kernel_rfl
      rw [← e]
      exact hmg0
    obtain ⟨fd, hb, hF⟩ := K02.facts (w := w) KX G hmg c
    exact ⟨K, fd, EV.spD K K02.f_law, KX, hb, fun H a ns hl hO hS => EV.law_spD hO hS (Nat.le_trans hl (by decide)) (law ns hl), hF⟩
/-! ## C1 -/
set_option Elab.async false
set_option linter.all false
set_option maxRecDepth 100000
set_option maxHeartbeats 2000000
/-! The plain toolkit: what the meanings compute. -/
namespace EV
open PySem PySem.Spec
open PyProof.Rows hiding St
open L2 EV0
section
variable {α β : Type} {env : Env} {S S' : Store} {d : D} {x : Ex}
@[simp] theorem bind_ok (a : α) (f : α → Store → R β) : (R.ok a S).bind f = f a S := rfl
@[simp] theorem bind_er (f : α → Store → R β) : (R.er x S : R α).bind f = .er x S := rfl
@[simp] theorem bind_no (f : α → Store → R β) : (R.no : R α).bind f = .no := rfl
@[simp] theorem ap_eC : eC d env S = .ok d S := rfl
@[simp] theorem ap_eBin (f : F2) (a b : EM) : eBin f a b env S = (a env S).bind fun x S1 => (b env S1).bind fun y S2 => f x y S2 := rfl
@[simp] theorem ap_eUn (f : D → Store → R D) (a : EM) : eUn f a env S = (a env S).bind f := rfl
@[simp] theorem ap_eApp (f : FN) (ms : List EM) : eApp f ms env S = (aList ms env S).bind f := rfl
@[simp] theorem ap_nil : aList [] env S = .ok [] S := rfl
@[simp] theorem ap_cons (m : EM) (ms : List EM) : aList (m :: ms) env S = (m env S).bind fun d S1 => (aList ms env S1).bind fun ds S2 => .ok (d :: ds) S2 := rfl
@[simp] theorem ap_eTup (ms : List EM) : eTup ms env S = (aList ms env S).bind fun ds S1 => .ok (.tup ds) S1 := rfl
@[simp] theorem ap_eLst (c : Bool) (ms : List EM) : eLst c ms env S = (aList ms env S).bind fun ds S1 => mkL c ds S1 := rfl
@[simp] theorem mkL_f (ds : List D) : mkL false ds S = .ok (.lst ds) S := rfl
@[simp] theorem mkL_t (ds : List D) : mkL true ds S = .ok (.loc S.length) (S ++ [some (.lst ds)]) := rfl
@[simp] theorem ap_eIf (t : BM) (a b : EM) : eIf t a b env S = (t env S).bind fun k S1 => if k then a env S1 else b env S1 := rfl
@[simp] theorem ap_bNot (m : BM) : bNot m env S = (m env S).bind fun b S1 => .ok (!b) S1 := rfl
@[simp] theorem ap_bAnd (m n : BM) : bAnd m n env S = (m env S).bind fun b S1 => if b then n env S1 else .ok false S1 := rfl
@[simp] theorem ap_bOr (m n : BM) : bOr m n env S = (m env S).bind fun b S1 => if b then .ok true S1 else n env S1 := rfl
@[simp] theorem ap_bOf (m : EM) : bOf m env S = (m env S).bind fun d S1 => match d with
  | .bl b => .ok b S1
  | _ => .no := rfl
@[simp] theorem ap_bTru (m : EM) : bTru m env S = (m env S).bind fun d S1 => match truD S1 d with
  | some b => .ok b S1
  | none => .no := rfl
@[simp] theorem ap_eOr (a b : EM) : eOr a b env S = (a env S).bind fun d S1 => match truD S1 d with
  | some true => .ok d S1
  | some false => b env S1
  | none => .no := rfl
@[simp] theorem ap_eAnd (a b : EM) : eAnd a b env S = (a env S).bind fun d S1 => match truD S1 d with
  | some true => b env S1
  | some false => .ok d S1
  | none => .no := rfl
@[simp] theorem ap_eChain (f g : F2) (a b c : EM) : eChain f g a b c env S = (a env S).bind fun u S1 => (b env S1).bind fun v S2 => (f u v S2).bind fun k S3 => match k with
  | .bl true => (c env S3).bind fun z S4 => g v z S4
  | .bl false => .ok (.bl false) S3
  | _ => .no := rfl
@[simp] theorem ap_bYes : bYes env S = .ok true S := rfl
@[simp] theorem ap_oNone : oNone env S = .ok none S := rfl
@[simp] theorem ap_oSome (m : EM) : oSome m env S = (m env S).bind fun d S1 => match d with
  | .int i => .ok (some i) S1
  | _ => .no := rfl
@[simp] theorem ap_eSl (a : EM) (l u : OM) : eSl a l u env S = (a env S).bind fun d S1 => (l env S1).bind fun lo S2 => (u env S2).bind fun hi S3 => fSl d lo hi S3 := rfl
@[simp] theorem ap_sNext : sNext env S = .nx env S := rfl
@[simp] theorem ap_sSeq (a b : SM) : sSeq a b env S = match a env S with
  | .nx env' S' => b env' S'
  | r => r := rfl
@[simp] theorem ap_sExpr (m : EM) : sExpr m env S = (m env S).then env fun _ S' => .nx env S' := rfl
@[simp] theorem ap_sRet (m : EM) : sRet m env S = (m env S).then env fun d S' => .rt d S' := rfl
@[simp] theorem ap_sRetN : sRetN env S = .rt .non S := rfl
@[simp] theorem ap_sBrk : sBrk env S = .bk env S := rfl
@[simp] theorem ap_sCont : sCont env S = .ct env S := rfl
@[simp] theorem ap_sIf (t : BM) (a b : SM) : sIf t a b env S = (t env S).then env fun k S' => if k then a env S' else b env S' := rfl
@[simp] theorem ap_sAsg (m : EM) (g : GF) : sAsg m g env S = (m env S).then env fun d S' => match g d env S' with
  | .ok env' S'' => .nx env' S''
  | _ => .no := rfl
@[simp] theorem ap_sRaise (c : Str) (fn : List Str) (ms : List EM) : sRaise c fn ms env S = (aList ms env S).then env fun ds S1 => if ds.length = fn.length then .er ⟨c, fn.zip ds⟩ env S1 else .no := rfl
@[simp] theorem ap_gVar (i : Nat) : gVar i d env S = if i < env.length then .ok (env.set i (some d)) S else .no := rfl
@[simp] theorem ap_gsNil : gsNil [] env S = .ok env S := rfl
@[simp] theorem ap_gsCons (g : GF) (gs : GFs) (ds : List D) : gsCons g gs (d :: ds) env S = (g d env S).bind fun env' S' => gs ds env' S' := rfl
@[simp] theorem ap_gTupD (n : Nat) (gs : GFs) : gTupD n gs d env S = match asQ S d with
  | some ds => if ds.length = n then gs ds env S else .no
  | none => .no := rfl
@[simp] theorem ap_gSubD (mo mi : EM) : gSubD mo mi d env S = (mo env S).bind fun o S1 => (mi env S1).bind fun i S2 => match fSetI o i d S2 with
  | some S3 => .ok env S3
  | none => .no := rfl
@[simp] theorem ap_iPlain (m : EM) : iPlain m env S = (m env S).bind fun d S1 => match iterD S1 d with
  | some it => .ok it S1
  | none => .no := rfl
@[simp] theorem ap_sFor (im : IM) (g : GF) (body els : SM) : sFor im g body els env S = (im env S).then env fun it S' => loopF it (turnF g body) els it.ds env S' := rfl
@[simp] theorem ap_eComp (c : Bool) (im : IM) (g : GF) (t : BM) (e : EM) (vs : List Nat) : eComp c im g t e vs env S = (im env S).bind fun it S1 => (compF it (itemF g t e (wipeE env vs)) it.ds [] S1).bind fun ds S2 => mkL c ds S2 := rfl
@[simp] theorem f1_1 (f : D → Store → R D) : f1 f [d] S = f d S := rfl
@[simp] theorem f2_2 (f : D → D → Store → R D) (e : D) : f2 f [d, e] S = f d e S := rfl
/-! ### names: slots -/
@[simp] theorem var_int {i : Nat} {n : Int} (h : env[i]? = some (some (.int n))) : eVar i env S = .ok (.int n) S := by simp [eVar, h]
theorem var_at {i : Nat} (h : env[i]? = some (some d)) (hd : ∀ c fs, d ≠ .exn c fs) : eVar i env S = .ok d S := by
  unfold eVar
  rw [h]
  cases d <;> first | rfl | (exfalso; exact hd _ _ rfl)
end
/-! ### ints -/
section
variable {S : Store} {i j : Int}
@[simp] theorem add_ii : fAdd (.int i) (.int j) S = .ok (.int (i + j)) S := rfl
@[simp] theorem sub_ii : fSub (.int i) (.int j) S = .ok (.int (i - j)) S := rfl
@[simp] theorem neg_i : fNeg (.int i) S = .ok (.int (-i)) S := rfl
theorem mod_ii (h : 0 < j) : fMod (.int i) (.int j) S = .ok (.int (i % j)) S := by simp [fMod, fI, h]
theorem div_ii (h : 0 < j) (h' : j < 18446744073709551616) : fDiv (.int i) (.int j) S = .ok (.int (i / j)) S := by simp [fDiv, fI, bDiv, h, h']
theorem mul_iL (h : -18446744073709551616 < i) (h' : i < 18446744073709551616) : fMul (.int i) (.int j) S = .ok (.int (i * j)) S := by simp [fMul, bMul, h, h']
theorem mul_iR (h : -18446744073709551616 < j) (h' : j < 18446744073709551616) : fMul (.int i) (.int j) S = .ok (.int (i * j)) S := by simp [fMul, bMul, h, h']
@[simp] theorem lt_ii : fLt (.int i) (.int j) S = .ok (.bl (decide (i < j))) S := rfl
@[simp] theorem le_ii : fLe (.int i) (.int j) S = .ok (.bl (decide (i ≤ j))) S := rfl
@[simp] theorem gt_ii : fGt (.int i) (.int j) S = .ok (.bl (decide (j < i))) S := rfl
@[simp] theorem ge_ii : fGe (.int i) (.int j) S = .ok (.bl (decide (j ≤ i))) S := rfl
@[simp] theorem int_i : fInt [.int i] S = .ok (.int i) S := rfl
@[simp] theorem abs_i : fAbs [.int i] S = .ok (.int (if i < 0 then -i else i)) S := rfl
@[simp] theorem tru_b (b : Bool) : truD S (.bl b) = some b := rfl
@[simp] theorem tru_n : truD S .non = some false := rfl
@[simp] theorem is_n (a : D) : fIs a .non S = .ok (.bl (isN a)) S := rfl
@[simp] theorem isnot_n (a : D) : fIsNot a .non S = .ok (.bl (!isN a)) S := rfl
end
/-! ### == -/
section
variable {S : Store}
mutual
theorem py_depth : ∀ {n : Nat} {d : D} {p : PyData}, toPy S n d = some p → p.depth ≤ n
  | 0, d, p, h => by simp [toPy] at h
  | n + 1, .non, p, h => by simp [toPy] at h; subst h; simp [PyData.depth]
  | n + 1, .bl _, p, h => by simp [toPy] at h; subst h; simp [PyData.depth]
  | n + 1, .int _, p, h => by simp [toPy] at h; subst h; simp [PyData.depth]
  | n + 1, .str _, p, h => by simp [toPy] at h; subst h; simp [PyData.depth]
  | n + 1, .tup ds, p, h => by
    simp only [toPy, Option.map_eq_some_iff] at h
    obtain ⟨ps, h1, rfl⟩ := h
    have := py_depthL h1
    simp only [PyData.depth]; omega
  | n + 1, .ktup ds, p, h => by
    simp only [toPy, Option.map_eq_some_iff] at h
    obtain ⟨ps, h1, rfl⟩ := h
    have := py_depthL h1
    simp only [PyData.depth]; omega
  | n + 1, .lst ds, p, h => by
    simp only [toPy, Option.map_eq_some_iff] at h
    obtain ⟨ps, h1, rfl⟩ := h
    have := py_depthL h1
    simp only [PyData.depth]; omega
  | n + 1, .scr ds, p, h => by
    simp only [toPy, Option.map_eq_some_iff] at h
    obtain ⟨ps, h1, rfl⟩ := h
    have := py_depthL h1
    simp only [PyData.depth]; omega
  | n + 1, .loc l, p, h => by
    simp only [toPy] at h
    split at h
    · simp only [Option.map_eq_some_iff] at h
      obtain ⟨ps, h1, rfl⟩ := h
      have := py_depthL h1
      simp only [PyData.depth]; omega
    · cases h
  | n + 1, .dct _ _, p, h => by simp [toPy] at h
  | n + 1, .ty _, p, h => by simp [toPy] at h
  | n + 1, .cls _, p, h => by simp [toPy] at h
  | n + 1, .ins _ _, p, h => by simp [toPy] at h
  | n + 1, .exn _ _, p, h => by simp [toPy] at h
theorem py_depthL : ∀ {n : Nat} {ds : List D} {ps : List PyData}, mapO (toPy S n) ds = some ps → PyData.depthAll ps ≤ n
  | n, [], ps, h => by simp [mapO] at h; subst h; simp [PyData.depthAll]
  | n, d :: ds, ps, h => by
    simp only [mapO] at h
    split at h
    · rename_i y ys h1 h2
      cases h
      have q1 := py_depth h1
      have q2 := py_depthL h2
      simp only [PyData.depthAll]; omega
    · cases h
end
theorem eq_py {a b : D} {p q : PyData} (ha : toPy S dpt a = some p) (hb : toPy S dpt b = some q) (h1 : p.canLay0 = true) (h2 : q.canLay0 = true) : eqD S a b = some (PyData.eqv p q) := by
  unfold eqD
  rw [ha, hb]
  have d1 : p.depth ≤ 64 := Nat.le_trans (py_depth ha) (by decide)
  have d2 : q.depth ≤ 64 := Nat.le_trans (py_depth hb) (by decide)
  simp [SeqAt.shaped, h1, h2, d1, d2]
theorem fEq_py {a b : D} {p q : PyData} (ha : toPy S dpt a = some p) (hb : toPy S dpt b = some q) (h1 : p.canLay0 = true) (h2 : q.canLay0 = true) : fEq a b S = .ok (.bl (PyData.eqv p q)) S := by
  unfold fEq
  rw [eq_py ha hb h1 h2]
theorem fNe_py {a b : D} {p q : PyData} (ha : toPy S dpt a = some p) (hb : toPy S dpt b = some q) (h1 : p.canLay0 = true) (h2 : q.canLay0 = true) : fNe a b S = .ok (.bl (!PyData.eqv p q)) S := by
  unfold fNe
  rw [eq_py ha hb h1 h2]
@[simp] theorem eq_ii {i j : Int} : fEq (.int i) (.int j) S = .ok (.bl (decide (i = j))) S := by
  rw [fEq_py (p := .int i) (q := .int j) rfl rfl rfl rfl]
  simp only [PyData.eqv]
  by_cases h : i = j <;> simp [h]
@[simp] theorem ne_ii {i j : Int} : fNe (.int i) (.int j) S = .ok (.bl (!decide (i = j))) S := by
  rw [fNe_py (p := .int i) (q := .int j) rfl rfl rfl rfl]
  simp only [PyData.eqv]
  by_cases h : i = j <;> simp [h]
theorem eqv_ints : ∀ {xs ys : List Int}, PyData.eqvAll (xs.map .int) (ys.map .int) = decide (xs = ys)
  | [], [] => rfl
  | [], _ :: _ => rfl
  | _ :: _, [] => rfl
  | x :: xs, y :: ys => by
    simp only [List.map_cons, PyData.eqvAll, PyData.eqv, eqv_ints]
    by_cases h : x = y <;> by_cases h2 : xs = ys <;> simp [h, h2]
theorem mapO_map {α β γ : Type} {f : β → Option γ} {g : α → β} {h : α → γ} : ∀ {l : List α}, (∀ a ∈ l, f (g a) = some (h a)) → mapO f (l.map g) = some (l.map h)
  | [], _ => rfl
  | a :: l, k => by
    simp only [List.map_cons, mapO]
    rw [k a (by simp), mapO_map fun b hb => k b (by simp [hb])]
theorem py_ints {n : Nat} {xs : List Int} : mapO (toPy S (n + 1)) (xs.map .int) = some (xs.map .int) := mapO_map fun a _ => rfl
theorem can_ints : ∀ {xs : List Int}, PyData.canLayAll0 (xs.map .int) = true
  | [] => rfl
  | x :: xs => by simp only [List.map_cons, PyData.canLayAll0, PyData.canLay0, can_ints, Bool.and_self]
mutual
theorem eqv_refl : ∀ {p : PyData}, p.canLay0 = true → PyData.eqv p p = true
  | .none, _ => rfl
  | .bool b, _ => by cases b <;> rfl
  | .int i, _ => by simp [PyData.eqv]
  | .str s, _ => by simp [PyData.eqv]
  | .list xs, h => by
    simp only [PyData.canLay0] at h
    simp only [PyData.eqv]
    exact eqvAll_refl h
  | .tuple xs, h => by
    simp only [PyData.canLay0] at h
    simp only [PyData.eqv]
    exact eqvAll_refl h
  | .dict _, h => by simp [PyData.canLay0] at h
theorem eqvAll_refl : ∀ {ps : List PyData}, PyData.canLayAll0 ps = true → PyData.eqvAll ps ps = true
  | [], _ => rfl
  | p :: ps, h => by
    simp only [PyData.canLayAll0, Bool.and_eq_true] at h
    simp only [PyData.eqvAll, eqv_refl h.1, eqvAll_refl h.2, Bool.and_self]
end
end
/-! ### lists -/
section
variable {S : Store}
theorem mapO_ints : ∀ {xs : List Int}, mapO toInt (xs.map .int) = some xs
  | [] => rfl
  | x :: xs => by simp only [List.map_cons, mapO, toInt, mapO_ints]
theorem in_flat {a b : D} {ds : List D} (h : asQ S b = some ds) (h0 : asD S b = none) (ha : flatD a = true) (hd : ds.all flatD = true) : fIn a b S = .ok (.bl (ds.any fun y => eqFl y a)) S := by
  unfold fIn inD
  rw [h0]
  simp only [h, ha, hd, Bool.and_self, if_true]
theorem notin_flat {a b : D} {ds : List D} (h : asQ S b = some ds) (h0 : asD S b = none) (ha : flatD a = true) (hd : ds.all flatD = true) : fNotIn a b S = .ok (.bl (!ds.any fun y => eqFl y a)) S := by
  unfold fNotIn inD
  rw [h0]
  simp only [h, ha, hd, Bool.and_self, if_true]
theorem asQ_L {d : D} {ds : List D} (h : asL S d = some ds) : asQ S d = some ds := by
  cases d <;> first | exact h | cases h
theorem asQ_T {d : D} {ds : List D} (h : asT d = some ds) : asQ S d = some ds := by
  cases d <;> first | exact h | cases h
theorem asD_L {d : D} {ds : List D} (h : asL S d = some ds) : asD S d = none := by
  cases d with
  | loc n =>
    simp only [asL] at h
    simp only [asD]
    cases e : S[n]? with
    | none => rfl
    | some o =>
      rw [e] at h
      cases o with
      | none => rfl
      | some c => cases c <;> first | rfl | cases h
  | _ => first | rfl | cases h
theorem asD_Q {d : D} {ds : List D} (h : asQ S d = some ds) : asD S d = none := by
  cases d with
  | tup _ => rfl
  | ktup _ => rfl
  | _ => exact asD_L h
@[simp] theorem asQ_tup (ds : List D) : asQ S (.tup ds) = some ds := rfl
@[simp] theorem asQ_ktup (ds : List D) : asQ S (.ktup ds) = some ds := rfl
@[simp] theorem asQ_lst (ds : List D) : asQ S (.lst ds) = some ds := rfl
@[simp] theorem asQ_scr (ds : List D) : asQ S (.scr ds) = some ds := rfl
theorem len_Q {d : D} {ds : List D} (h : asQ S d = some ds) : fLen [d] S = .ok (.int ds.length) S := by
  simp only [fLen, f1_1, h]
theorem tupK_L {d : D} {ds : List D} (h : asL S d = some ds) : fTupleK [d] S = .ok (.ktup ds) S := by
  have : asT d = none := by cases d <;> first | rfl | cases h
  simp only [fTupleK, f1_1, this, h]
theorem tupK_T {d : D} {ds : List D} (h : asT d = some ds) : fTupleK [d] S = .ok d S := by
  simp only [fTupleK, f1_1, h]
theorem list_Q {d : D} {ds : List D} {c : Bool} (h : asQ S d = some ds) : fList c [d] S = mkL c ds S := by
  simp only [fList, f1_1, h]
theorem tru_Q {d : D} {ds : List D} (h : asQ S d = some ds) : truD S d = some (!ds.isEmpty) := by
  cases d <;> first | (simp only [truD, h]; done) | cases h
theorem ixN_nat {n i : Nat} (h : i < n) : ixN n (i : Int) = some i := by
  unfold ixN
  rw [if_pos (by omega), if_pos (by omega)]
  simp
theorem ix_Q {a : D} {ds : List D} {i : Nat} {d : D} (h : asQ S a = some ds) (hi : ds[i]? = some d) : fIx a (.int i) S = .ok d S := by
  have h0 := asD_Q h
  have hl := (List.getElem?_eq_some_iff.mp hi).1
  simp only [fIx, h0, h, atI, ixN_nat hl, Option.bind_some, hi]
theorem ix_Qi {a : D} {ds : List D} {i : Int} {d : D} (h : asQ S a = some ds) (h0 : 0 ≤ i) (hi : ds[i.toNat]? = some d) : fIx a (.int i) S = .ok d S := by
  have e : i = (i.toNat : Int) := by omega
  rw [e]
  exact ix_Q h hi
theorem asL_loc {n : Nat} {ds : List D} (h : S[n]? = some (some (.lst ds))) : asL S (.loc n) = some ds := by simp only [asL, h]
theorem cellL_loc {n : Nat} {ds : List D} (h : S[n]? = some (some (.lst ds))) : cellL S (.loc n) = some (n, ds) := by simp only [cellL, h]
theorem setI_loc {n : Nat} {ds : List D} {i : Nat} {d : D} (h : S[n]? = some (some (.lst ds))) (hi : i < ds.length) : fSetI (.loc n) (.int i) d S = some (S.set n (some (.lst (ds.set i d)))) := by
  simp only [fSetI, cellL_loc h, ixN_nat hi]
theorem setI_loci {n : Nat} {ds : List D} {i : Int} {d : D} (h : S[n]? = some (some (.lst ds))) (h0 : 0 ≤ i) (hi : i.toNat < ds.length) : fSetI (.loc n) (.int i) d S = some (S.set n (some (.lst (ds.set i.toNat d)))) := by
  have e : i = (i.toNat : Int) := by omega
  rw [e]
  exact setI_loc h hi
theorem append_loc {n : Nat} {ds : List D} {d : D} (h : S[n]? = some (some (.lst ds))) (hz : ds.length < sizeLine) : fmAppend (.loc n) [d] S = .ok .non (S.set n (some (.lst (ds ++ [d])))) := by
  simp only [fmAppend, cellL_loc h, if_pos hz]
theorem ty_list {d : D} {ds : List D} (h : asL S d = some ds) : tyD "list" S d = true := by
  cases d <;> first | (simp [tyD, h]; done) | cases h
theorem meth_L {env : Env} {S0 : Store} {fL : FM} {fT : Option FM} {m : EM} {ms : List EM} {d : D} {ds : List D} (h : m env S0 = .ok d S) (hd : asL S d = some ds) : eMeth2 (some fL) fT m ms env S0 = (aList ms env S).bind fun as S2 => fL d as S2 := by
  simp only [eMeth2, h, ty_list hd, if_true]
theorem meth_T {env : Env} {S0 : Store} {fL : Option FM} {fT : FM} {m : EM} {ms : List EM} {ds : List D} (h : m env S0 = .ok (.ktup ds) S) : eMeth2 fL (some fT) m ms env S0 = (aList ms env S).bind fun as S2 => fT (.ktup ds) as S2 := by
  simp only [eMeth2, h, show tyD "list" S (.ktup ds) = false from rfl, show tyD "tuple" S (.ktup ds) = true from rfl, if_true, Bool.false_eq_true, if_false]
theorem countT_ints {xs : List Int} {k : Int} : fmCountT (.ktup (xs.map .int)) [.int k] S = .ok (.int (xs.count k : Nat)) S := by
  simp only [fmCountT, asTI, asT, mapO_ints]
theorem countL_ints {d : D} {xs : List Int} {k : Int} (h : asL S d = some (xs.map .int)) : fmCountL d [.int k] S = .ok (.int (xs.count k : Nat)) S := by
  simp only [fmCountL, fmCount, h, asI, mapO_ints]
end
/-! ### what is walked -/
section
variable {S : Store}
theorem gOk_same {it : ItS} {S' : Store} (h : gOk S it) (e : ∀ l, l < S.length → S'[l]? = S[l]?) : gOk S' it := fun p hp => by
  have q := h p hp
  rw [e p.1 (List.getElem?_eq_some_iff.mp q).1]
  exact q
theorem iter_T {d : D} {ds : List D} (h : asT d = some ds) : iterD S d = some ⟨ds, []⟩ := by
  cases d <;> first | (cases h; rfl) | cases h
theorem iter_L {d : D} {ds : List D} (h : asL S d = some ds) : ∃ g, iterD S d = some ⟨ds, g⟩ ∧ gOk S ⟨ds, g⟩ := by
  cases d with
  | lst es => cases h; exact ⟨[], rfl, fun _ h => nomatch h⟩
  | scr es => cases h; exact ⟨[], rfl, fun _ h => nomatch h⟩
  | loc n =>
    simp only [asL] at h
    split at h
    · rename_i es e
      cases h
      refine ⟨[(n, ds)], by simp only [iterD, seqT, seqL, e], fun p hp => ?_⟩
      simp only [List.mem_singleton] at hp
      subst hp
      exact e
    · cases h
  | _ => cases h
theorem iter_Q {d : D} {ds : List D} (h : asQ S d = some ds) : ∃ g, iterD S d = some ⟨ds, g⟩ ∧ gOk S ⟨ds, g⟩ := by
  cases d with
  | tup es => cases h; exact ⟨[], rfl, fun _ h => nomatch h⟩
  | ktup es => cases h; exact ⟨[], rfl, fun _ h => nomatch h⟩
  | _ => exact iter_L h
theorem seqL_L {d : D} {ds : List D} (h : asL S d = some ds) : ∃ g, seqL S d = some ⟨ds, g⟩ ∧ gOk S ⟨ds, g⟩ := by
  cases d with
  | lst es => cases h; exact ⟨[], rfl, fun _ h => nomatch h⟩
  | scr es => cases h; exact ⟨[], rfl, fun _ h => nomatch h⟩
  | loc n =>
    simp only [asL] at h
    split at h
    · rename_i es e
      cases h
      refine ⟨[(n, ds)], by simp only [seqL, e], fun p hp => ?_⟩
      simp only [List.mem_singleton] at hp
      subst hp
      exact e
    · cases h
  | _ => cases h
theorem gOk_nils {ds : List D} : gOk S ⟨ds, []⟩ := fun _ h => nomatch h
theorem gOk_ds {ds ds' : List D} {g : List (Nat × List D)} (h : gOk S ⟨ds, g⟩) : gOk S ⟨ds', g⟩ := h
theorem rng_map : ∀ (n : Nat) (a : Int), rngD n a 1 = (List.range n).map fun (k : Nat) => D.int (a + (k : Int))
  | 0, _ => rfl
  | n + 1, a => by
    rw [List.range_succ_eq_map, List.map_cons, List.map_map]
    simp only [rngD, rng_map n (a + 1)]
    have e : (List.range n).map (fun (k : Nat) => D.int (a + 1 + (k : Int))) = (List.range n).map ((fun (k : Nat) => D.int (a + (k : Int))) ∘ Nat.succ) := List.map_congr_left fun k _ => by
      simp only [Function.comp]
      congr 1
      omega
    rw [e]
    simp
theorem range1 {env : Env} {S0 : Store} {m : EM} {j : Int} (h : m env S0 = .ok (.int j) S) (hj : j < 8000000) (h0 : 0 ≤ j) : iRange [m] env S0 = .ok ⟨(List.range j.toNat).map fun (k : Nat) => D.int k, []⟩ S := by
  have e : rB j = true := by simp [rB]; omega
  have q := rng_map j.toNat 0
  simp only [Int.zero_add] at q
  simp only [iRange, aList, h, bind_ok, e, if_true, q]
theorem enum_map : ∀ (k : Nat) (ds : List D), enumD k ds = (ds.zipIdx k).map fun p => D.tup [.int (p.2 : Int), p.1]
  | _, [] => rfl
  | k, d :: ds => by simp only [enumD, enum_map (k + 1) ds, List.zipIdx_cons, List.map_cons]
theorem zip_map : ∀ (ds es : List D), zipD ds es = (ds.zip es).map fun p => D.tup [p.1, p.2]
  | [], _ => by simp [zipD]
  | _ :: _, [] => by simp [zipD]
  | d :: ds, e :: es => by simp [zipD, zip_map ds es]
end
/-! ### loops -/
section
variable {it : ItS} {body : D → Env → Store → SO} {els : SM} {env : Env} {S : Store}
theorem loop_nil (h : gOk S it) : loopF it body els [] env S = els env S := by simp only [loopF, if_pos h]
theorem loop_cons {d : D} {ds : List D} (h : gOk S it) : loopF it body els (d :: ds) env S = match body d env S with
    | .nx env' S' => loopF it body els ds env' S'
    | .ct env' S' => loopF it body els ds env' S'
    | .bk env' S' => .nx env' S'
    | r => r := by simp only [loopF, if_pos h] <;> rfl
@[simp] theorem ap_turnF (g : GF) (b : SM) (d : D) : turnF g b d env S = match g d env S with
  | .ok env' S' => b env' S'
  | _ => .no := rfl
/-- a loop without a way out -/
theorem loop_fold {σ ι : Type} (en : σ → Env) (st : σ → Store) (dat : ι → D) (f : σ → ι → σ) (Inv : σ → Prop) {l : List ι} (hg : ∀ s, Inv s → gOk (st s) it)
    (hb : ∀ s x, Inv s → x ∈ l → body (dat x) (en s) (st s) = .nx (en (f s x)) (st (f s x)) ∧ Inv (f s x)) : ∀ {s : σ}, Inv s → loopF it body els (l.map dat) (en s) (st s) = els (en (l.foldl f s)) (st (l.foldl f s)) ∧ Inv (l.foldl f s) := by
  induction l with
  | nil => exact fun {s} h => ⟨loop_nil (hg s h), h⟩
  | cons x l ih =>
    intro s h
    obtain ⟨h1, h2⟩ := hb s x h (by simp)
    rw [List.map_cons, loop_cons (hg s h), h1]
    exact ih (fun s y i hy => hb s y i (by simp [hy])) h2
/-- a loop that may be left: r is where it ends -/
theorem loop_exc {σ ι : Type} (en : σ → Env) (st : σ → Store) (dat : ι → D) (f : σ → ι → Except SO σ) (Inv : σ → Prop) {l : List ι} (hg : ∀ s, Inv s → gOk (st s) it)
    (hb : ∀ s x, Inv s → x ∈ l → match f s x with
      | .ok s' => body (dat x) (en s) (st s) = .nx (en s') (st s') ∧ Inv s'
      | .error r => body (dat x) (en s) (st s) = r ∧ ((∃ d S, r = .rt d S) ∨ ∃ y e S, r = .er y e S)) :
    ∀ {s : σ}, Inv s → loopF it body els (l.map dat) (en s) (st s) = match l.foldlM f s with
      | .ok s' => els (en s') (st s')
      | .error r => r := by
  induction l with
  | nil => exact fun {s} h => loop_nil (hg s h)
  | cons x l ih =>
    intro s h
    have q := hb s x h (by simp)
    rw [List.map_cons, loop_cons (hg s h), List.foldlM_cons]
    cases e : f s x with
    | ok s' =>
      rw [e] at q
      rw [q.1]
      exact ih (fun s y i hy => hb s y i (by simp [hy])) q.2
    | error r =>
      rw [e] at q
      obtain ⟨q1, ⟨d, S', rfl⟩ | ⟨y, e', S', rfl⟩⟩ := q
      · rw [q1]; rfl
      · rw [q1]; rfl
end
/-! ### comprehensions -/
section
variable {it : ItS} {S : Store}
@[simp] theorem ap_itemF {α : Type} (g : GF) (t : BM) (e : Env → Store → R α) (env : Env) (d : D) : itemF g t e env d S = match g d env S with
  | .ok env' S1 => match t env' S1 with
    | .ok true S2 => (e env' S2).bind fun y S3 => .ok (some y) S3
    | .ok false S2 => .ok none S2
    | _ => .no
  | _ => .no := rfl
theorem comp_map {ι α : Type} {F : D → Store → R (Option α)} (dat : ι → D) (f : ι → Option α) {l : List ι} (hg : gOk S it) (hb : ∀ x ∈ l, F (dat x) S = .ok (f x) S) : ∀ {acc : List α}, compF it F (l.map dat) acc S = .ok (acc ++ l.filterMap f) S := by
  induction l with
  | nil => intro acc; simp only [List.map_nil, compF, if_pos hg, List.filterMap_nil, List.append_nil]
  | cons x l ih =>
    intro acc
    simp only [List.map_cons, compF, if_pos hg, hb x (by simp)]
    cases e : f x with
    | none => simp only [List.filterMap_cons, e]; exact ih fun y hy => hb y (by simp [hy])
    | some z => simp only [List.filterMap_cons, e]; rw [ih fun y hy => hb y (by simp [hy])]; simp
theorem compG_fold {ι α : Type} {F : D → List α → Store → R (List α)} (dat : ι → D) (f : ι → List α) {l : List ι} (P : List α → Prop) (hg : gOk S it) (hb : ∀ x ∈ l, ∀ acc, P acc → F (dat x) acc S = .ok (acc ++ f x) S ∧ P (acc ++ f x)) : ∀ {acc : List α}, P acc → compG it F (l.map dat) acc S = .ok (acc ++ l.flatMap f) S := by
  induction l with
  | nil => intro acc _; simp only [List.map_nil, compG, if_pos hg, List.flatMap_nil, List.append_nil]
  | cons x l ih =>
    intro acc p
    obtain ⟨h1, h2⟩ := hb x (by simp) acc p
    simp only [List.map_cons, compG, if_pos hg, h1]
    rw [ih (fun y hy => hb y (by simp [hy])) h2]
    simp
end
/-! ### a def's end -/
section
variable {S g : Store} {np n : Nat} {m : SM} {ds : List D} {d : D}
theorem keep_app : keepS S (S ++ g) := fun l h => .inl (List.getElem?_append_left h)
theorem cut_app (h : lb S.length d = true) : cutR S (.ok d (S ++ g)) = .ok d S := by
  simp only [cutR, if_pos (And.intro h (keep_app (g := g))), List.take_left']
theorem cut_erA {x : Ex} (h : lbF S.length x.fs = true) : cutR S (.er x (S ++ g)) = .er x S := by
  simp only [cutR, if_pos (And.intro h (keep_app (g := g))), List.take_left']
theorem cut_mut {S' : Store} (h : lb S.length d = true) (hl : S'.length = S.length) (k : keepS S (S' ++ g)) : cutR S (.ok d (S' ++ g)) = .ok d S' := by
  simp only [cutR, if_pos (And.intro h k)]
  rw [← hl, List.take_left']
  rfl
theorem defM_ok (hn : ds.length = np) (h : outR (m (env0 n ds) S) = .ok d (S ++ g)) (hd : lb S.length d = true) : defM false np n m ds S = .ok d S := by
  simp only [defM, if_pos hn, Bool.false_eq_true, if_false, h]
  exact cut_app hd
theorem defM_ok0 (hn : ds.length = np) (h : outR (m (env0 n ds) S) = .ok d S) (hd : lb S.length d = true) : defM false np n m ds S = .ok d S :=
  defM_ok (g := []) hn (by rw [h, List.append_nil]) hd
theorem defM_er {x : Ex} (hn : ds.length = np) (h : outR (m (env0 n ds) S) = .er x (S ++ g)) (hd : lbF S.length x.fs = true) : defM false np n m ds S = .er x S := by
  simp only [defM, if_pos hn, Bool.false_eq_true, if_false, h]
  exact cut_erA hd
theorem defM_er0 {x : Ex} (hn : ds.length = np) (h : outR (m (env0 n ds) S) = .er x S) (hd : lbF S.length x.fs = true) : defM false np n m ds S = .er x S :=
  defM_er (g := []) hn (by rw [h, List.append_nil]) hd
theorem defM_mut {S' : Store} (hn : ds.length = np) (h : outR (m (env0 n ds) S) = .ok d (S' ++ g)) (hd : lb S.length d = true) (hl : S'.length = S.length) (k : keepS S (S' ++ g)) : defM false np n m ds S = .ok d S' := by
  simp only [defM, if_pos hn, Bool.false_eq_true, if_false, h]
  exact cut_mut hd hl k
theorem set_last {es es' : List D} : (S ++ [some (Cell.lst es)]).set S.length (some (Cell.lst es')) = S ++ [some (Cell.lst es')] := by
  rw [List.set_append_right _ _ (Nat.le_refl _), Nat.sub_self]
  rfl
theorem get_last {c : Option Cell} : (S ++ [c])[S.length]? = some c := by
  rw [List.getElem?_append_right (Nat.le_refl _), Nat.sub_self]
  rfl
theorem defM_frz {es : List D} {l : Nat} (hn : ds.length = np) (h : outR (m (env0 n ds) S) = .ok (.loc l) (S ++ g)) (hl : S.length ≤ l) (hg : (S ++ g)[l]? = some (some (.lst es))) (hd : lbL S.length es = true) : defM true np n m ds S = .ok (.lst es) S := by
  simp only [defM, if_pos hn, if_true, h, frzR, if_pos hl, hg, frzC]
  have e : (S ++ g).set l none = S ++ g.set (l - S.length) none := by rw [List.set_append_right _ _ hl]
  rw [e]
  exact cut_app (d := .lst es) hd
theorem lbL_map {ι : Type} {k : Nat} {f : ι → D} : ∀ {l : List ι}, (∀ x ∈ l, lb k (f x) = true) → lbL k (l.map f) = true
  | [], _ => rfl
  | x :: l, h => by
    simp only [List.map_cons, lbL, h x (by simp), Bool.true_and]
    exact lbL_map fun y hy => h y (by simp [hy])
theorem lb_ints {k : Nat} {xs : List Int} : lbL k (xs.map .int) = true := lbL_map fun _ _ => rfl
@[simp] theorem out_nx {env : Env} : outR (.nx env S) = .ok .non S := rfl
@[simp] theorem out_rt : outR (.rt d S) = .ok d S := rfl
@[simp] theorem out_er {x : Ex} {env : Env} : outR (.er x env S) = .er x S := rfl
end
end EV
/-! ## C2 -/
set_option Elab.async false
set_option linter.all false
set_option maxRecDepth 100000
set_option maxHeartbeats 2000000
/-! Plain toolkit 2: loops that only look; lists of ints. -/
namespace EV
open PySem PySem.Spec
open PyProof.Rows hiding St
open L2 EV0
section
variable {it : ItS} {body : D → Env → Store → SO} {els : SM} {S : Store}
/-- a loop that only looks: it ends at the first item at which p fails -/
theorem loop_chk {ι : Type} {P : Env → Prop} (dat : ι → D) (p : ι → Bool) (r : ι → SO → Prop) {l : List ι} (hg : gOk S it) (hr : ∀ x o, r x o → (∃ d S, o = .rt d S) ∨ ∃ y e S, o = .er y e S)
    (hb : ∀ env x, P env → x ∈ l → if p x then ∃ env', body (dat x) env S = .nx env' S ∧ P env' else r x (body (dat x) env S)) :
    ∀ {env : Env}, P env → match l.find? (fun x => !p x) with
      | some x => r x (loopF it body els (l.map dat) env S)
      | none => ∃ env', P env' ∧ loopF it body els (l.map dat) env S = els env' S := by
  induction l with
  | nil => exact fun {env} h => ⟨env, h, loop_nil hg⟩
  | cons x l ih =>
    intro env h
    have q := hb env x h (by simp)
    rw [List.map_cons, loop_cons hg, List.find?_cons]
    cases e : p x with
    | true =>
      rw [e] at q
      obtain ⟨env', q1, q2⟩ := q
      rw [q1]
      exact ih (fun env y i hy => hb env y i (by simp [hy])) q2
    | false =>
      rw [e] at q
      have q : r x (body (dat x) env S) := q
      show r x _
      rcases hr x _ q with ⟨d, S', eq⟩ | ⟨y, e', S', eq⟩
      · rw [eq] at q ⊢; exact q
      · rw [eq] at q ⊢; exact q
end
abbrev I (xs : List Int) : List D := xs.map D.int
/-- a row of ints: a list, or a tuple that is kept -/
def Rm (S : Store) (d : D) (xs : List Int) : Prop := asL S d = some (I xs) ∨ d = .ktup (I xs)
section
variable {S : Store} {d : D} {xs : List Int}
theorem Rm.q (h : Rm S d xs) : asQ S d = some (I xs) := by
  rcases h with h | rfl
  · exact asQ_L h
  · rfl
theorem Rm.tup (h : Rm S d xs) : fTupleK [d] S = .ok (.ktup (I xs)) S := by
  rcases h with h | rfl
  · exact tupK_L h
  · rfl
theorem Rm.k : Rm S (.ktup (I xs)) xs := .inr rfl
theorem Rm.exn (h : Rm S d xs) : ∀ c fs, d ≠ .exn c fs := fun c fs e => by
  subst e
  rcases h with h | h <;> cases h
theorem Rm.tupD (h : Rm S d xs) : ∀ ys, d ≠ .tup ys := fun c e => by
  subst e
  rcases h with h | h <;> cases h
theorem Rm.len (h : Rm S d xs) : fLen [d] S = .ok (.int xs.length) S := by
  rw [len_Q h.q, List.length_map]
theorem Rm.iter (h : Rm S d xs) : ∃ g, iterD S d = some ⟨I xs, g⟩ ∧ gOk S ⟨I xs, g⟩ := iter_Q h.q
@[simp] theorem var_ktup {env : Env} {i : Nat} {ds : List D} (h : env[i]? = some (some (.ktup ds))) : eVar i env S = .ok (.ktup ds) S := by simp [eVar, h]
end
/-- a result that changes nothing and names nothing new -/
def ResOk (S : Store) : R D → Prop
  | .ok d S' => S' = S ∧ lb S.length d = true
  | .er x S' => S' = S ∧ lbF S.length x.fs = true
  | .no => True
theorem defM_pure {np n : Nat} {m : SM} {ds : List D} {S : Store} {r : R D} (hn : ds.length = np) (h : outR (m (env0 n ds) S) = r) (hr : ResOk S r) : defM false np n m ds S = r := by
  cases r with
  | ok d S' => obtain ⟨rfl, hl⟩ := hr; exact defM_ok0 hn h hl
  | er x S' => obtain ⟨rfl, hl⟩ := hr; exact defM_er0 hn h hl
  | no => simp only [defM, if_pos hn, h]; rfl
theorem resOk_if {S : Store} {c : Prop} [Decidable c] {a b : R D} (h1 : ResOk S a) (h2 : ResOk S b) : ResOk S (if c then a else b) := by
  split <;> assumption
@[simp] theorem lb_ktI {k : Nat} {xs : List Int} : lb k (.ktup (I xs)) = true := lb_ints
@[simp] theorem lb_tI {k : Nat} {xs : List Int} : lb k (.tup (I xs)) = true := lb_ints
theorem resOk_v {S : Store} {d : D} (h : lb S.length d = true) : ResOk S (.ok d S) := ⟨rfl, h⟩
theorem resOk_x {S : Store} {x : Ex} (h : lbF S.length x.fs = true) : ResOk S (.er x S) := ⟨rfl, h⟩
@[simp] theorem ap_eComp2 {env : Env} {S : Store} (c : Bool) (im : IM) (g : GF) (t : BM) (im1 : IM) (g1 : GF) (t1 : BM) (e : EM) (vs vs1 : List Nat) : eComp2 c im g t im1 g1 t1 e vs vs1 env S = (im env S).bind fun it S1 => (compG it (turn2 g t im1 g1 t1 e vs1 (wipeE env vs)) it.ds [] S1).bind fun ds S2 => mkL c ds S2 := rfl
@[simp] theorem ap_turn2 {α : Type} {S : Store} (g : GF) (t : BM) (im1 : IM) (g1 : GF) (t1 : BM) (e : Env → Store → R α) (vs1 : List Nat) (env : Env) (d : D) (acc : List α) : turn2 g t im1 g1 t1 e vs1 env d acc S = match g d env S with
  | .ok env3 S1 => match t env3 S1 with
    | .ok true S2 => match im1 env3 S2 with
      | .ok it1 S3 => if acc.length + it1.ds.length ≤ sizeLine then compF it1 (itemF g1 t1 e (wipeE env3 vs1)) it1.ds acc S3 else .no
      | _ => .no
    | .ok false S2 => .ok acc S2
    | _ => .no
  | _ => .no := rfl
theorem add_tt {S : Store} {a b : List D} (h : a.length + b.length ≤ sizeLine) : fAdd (.tup a) (.tup b) S = .ok (.tup (a ++ b)) S := by simp only [fAdd, if_pos h]
theorem add_ll {S : Store} {a b : List D} (h : a.length + b.length ≤ sizeLine) : fAdd (.lst a) (.lst b) S = .ok (.lst (a ++ b)) S := by simp only [fAdd, asLT, if_pos h]
theorem big_size {n : Nat} (h : n ≤ 100000) : n ≤ sizeLine := by rw [sizeLine_eq]; omega
@[simp] theorem var_lst {env : Env} {S : Store} {i : Nat} {ds : List D} (h : env[i]? = some (some (.lst ds))) : eVar i env S = .ok (.lst ds) S := by simp [eVar, h]
@[simp] theorem var_tup {env : Env} {S : Store} {i : Nat} {ds : List D} (h : env[i]? = some (some (.tup ds))) : eVar i env S = .ok (.tup ds) S := by simp [eVar, h]
@[simp] theorem var_loc {env : Env} {S : Store} {i : Nat} {l : Nat} (h : env[i]? = some (some (.loc l))) : eVar i env S = .ok (.loc l) S := by simp [eVar, h]
@[simp] theorem var_non {env : Env} {S : Store} {i : Nat} (h : env[i]? = some (some .non)) : eVar i env S = .ok .non S := by simp [eVar, h]
@[simp] theorem var_str {env : Env} {S : Store} {i : Nat} {z : PySem.Str} (h : env[i]? = some (some (.str z))) : eVar i env S = .ok (.str z) S := by simp [eVar, h]
@[simp] theorem var_bl {env : Env} {S : Store} {i : Nat} {z : Bool} (h : env[i]? = some (some (.bl z))) : eVar i env S = .ok (.bl z) S := by simp [eVar, h]
@[simp] theorem var_scr {env : Env} {S : Store} {i : Nat} {ds : List D} (h : env[i]? = some (some (.scr ds))) : eVar i env S = .ok (.scr ds) S := by simp [eVar, h]
theorem compG_bnd {ι α : Type} {it : ItS} {S : Store} {F : D → List α → Store → R (List α)} (dat : ι → D) (f : ι → List α) (B : Nat) {l : List ι} (hg : gOk S it) (hb : ∀ x ∈ l, ∀ acc, acc.length + (f x).length ≤ B → F (dat x) acc S = .ok (acc ++ f x) S) : ∀ {acc : List α}, acc.length + (l.flatMap f).length ≤ B → compG it F (l.map dat) acc S = .ok (acc ++ l.flatMap f) S := by
  induction l with
  | nil => intro acc _; simp only [List.map_nil, compG, if_pos hg, List.flatMap_nil, List.append_nil]
  | cons x l ih =>
    intro acc p
    rw [List.flatMap_cons, List.length_append] at p
    have h1 := hb x (by simp) acc (by omega)
    simp only [List.map_cons, compG, if_pos hg, h1]
    rw [ih (fun y hy => hb y (by simp [hy])) (by rw [List.length_append]; omega)]
    simp
theorem asQ_exn {S : Store} {d : D} {ds : List D} (h : asQ S d = some ds) : ∀ c fs, d ≠ .exn c fs := fun c fs e => by
  subst e
  cases h
theorem varQ {env : Env} {S : Store} {i : Nat} {d : D} {ds : List D} (h : env[i]? = some (some d)) (hq : asQ S d = some ds) : eVar i env S = .ok d S := var_at h (asQ_exn hq)
theorem ixI {S : Store} {d : D} {xs : List Int} {i : Nat} (h : asQ S d = some (I xs)) (hi : i < xs.length) : fIx d (.int i) S = .ok (.int xs[i]) S := ix_Q h (by simp [hi])
theorem lenQ {S : Store} {d : D} {xs : List Int} (h : asQ S d = some (I xs)) : fLen [d] S = .ok (.int xs.length) S := by
  rw [len_Q h, List.length_map]
end EV
/-! ## P02a -/
set_option Elab.async false
set_option linter.all false
set_option maxRecDepth 100000
set_option maxHeartbeats 2000000
namespace K02
open PySem PySem.Spec
open PyProof.Rows hiding St
open L2 EV0 EV
def okM (x : Int) : Bool := x == 0 || x == 1 || x == 2
def okR (n : Nat) (xs : List Int) : Bool := xs.length == n && xs.all okM
def badR (xs : List Int) : Ex := ⟨"BadRoom", [("row", .ktup (I xs))]⟩
theorem bad_lb {k : Nat} {xs : List Int} : lbF k (badR xs).fs = true := by simp [badR, lbF]
section
variable {S : Store} {d e : D} {xs ys : List Int}
theorem mark_in (x : Int) : fNotIn (.int x) (.tup [.int 0, .int 1, .int 2]) S = .ok (.bl (!okM x)) S := by
  rw [notin_flat (ds := [.int 0, .int 1, .int 2]) rfl rfl rfl rfl]
  simp only [List.any_cons, eqFl, List.any_nil, okM, Bool.or_false]
  congr 3
  rw [Bool.beq_comm (a := x), Bool.beq_comm (a := x) , Bool.beq_comm (a := x)]
  simp [Bool.or_assoc]
theorem as_room_spec (n : Nat) (h : Rm S d xs) : f_as_room [.int n, d] S = if okR n xs then .ok (.ktup (I xs)) S else .er (badR xs) S := by
  have v1 : eVar 1 [some (.int n), some d, none] S = .ok d S := var_at rfl h.exn
  have hl : fLen [.ktup (I xs)] S = .ok (.int xs.length) S := Rm.k.len
  have key : outR (b_as_room (env0 3 [.int n, d]) S) = if okR n xs then .ok (.ktup (I xs)) S else .er (badR xs) S := by
    have e0 : env0 3 [.int n, d] = [some (.int n), some d, none] := rfl
    rw [e0]
    simp [b_as_room, v1, h.tup, hl]
    by_cases hn : xs.length = n
    · subst hn
      simp [iter_T (d := .ktup (I xs)) rfl]
      have L := loop_chk (it := ⟨I xs, []⟩) (S := S) (els := sNext) (body := turnF (gVar 2) (sIf (bOf (eBin fNotIn (eVar 2) (eTup [eC (D.int 0), eC (D.int 1), eC (D.int 2)]))) (sRaise "BadRoom" ["row"] [eVar 1]) sNext))
        (P := fun env => ∃ o, env = [some (.int xs.length), some (.ktup (I xs)), o]) (l := xs) D.int okM (fun _ o => ∃ env, o = .er (badR xs) env S) gOk_nils (fun x o ⟨env, e⟩ => .inr ⟨_, _, _, e⟩)
        (fun env x ⟨o, e⟩ hx => by
          subst e
          cases ex : okM x with
          | true => simp [mark_in, ex]
          | false => simp [mark_in, ex, badR]) ⟨none, rfl⟩
      cases ef : xs.find? (fun x => !okM x) with
      | none =>
        rw [ef] at L
        obtain ⟨env', ⟨o, rfl⟩, q⟩ := L
        have : xs.all okM = true := by simpa using ef
        rw [q]
        simp [okR, this]
      | some x =>
        rw [ef] at L
        obtain ⟨env', q⟩ := L
        have hx := List.find?_some ef
        have hm := List.mem_of_find?_eq_some ef
        have : xs.all okM = false := by
          rw [List.all_eq_false]
          exact ⟨x, hm, by simpa using hx⟩
        rw [q]
        simp [okR, this]
    · have hn' : ¬ ((xs.length : Int) = (n : Int)) := by omega
      simp [hn, hn', okR, badR]
  exact defM_pure rfl key (resOk_if (resOk_v lb_ktI) (resOk_x bad_lb))
def lone (xs : List Int) : Bool := decide (1 ≤ xs.length) && decide (xs.length ≤ 12) && xs.all okM
theorem as_lone_room_spec (h : Rm S d xs) : f_as_lone_room [d] S = if lone xs then .ok (.ktup (I xs)) S else .er (badR xs) S := by
  have v1 : eVar 0 [some d] S = .ok d S := var_at rfl h.exn
  have hl : fLen [.ktup (I xs)] S = .ok (.int xs.length) S := Rm.k.len
  have key : outR (b_as_lone_room (env0 1 [d]) S) = if lone xs then .ok (.ktup (I xs)) S else .er (badR xs) S := by
    have e0 : env0 1 [d] = [some d] := rfl
    rw [e0]
    simp [b_as_lone_room, v1, h.tup, hl]
    by_cases h1 : 1 ≤ xs.length
    · by_cases h2 : xs.length ≤ 12
      · have h1' : (1 : Int) ≤ xs.length := by omega
        have h2' : (xs.length : Int) ≤ 12 := by omega
        simp [h1', h2', hl, as_room_spec xs.length (Rm.k (xs := xs))]
        have e : lone xs = okR xs.length xs := by simp [lone, okR, h1, h2]
        rw [e]
        cases okR xs.length xs <;> simp
      · have h1' : (1 : Int) ≤ xs.length := by omega
        have h2' : ¬ (xs.length : Int) ≤ 12 := by omega
        simp [h1', h2', lone, h2, badR]
    · have h1' : ¬ (1 : Int) ≤ xs.length := by omega
      simp [h1', lone, h1, badR]
  exact defM_pure rfl key (resOk_if (resOk_v lb_ktI) (resOk_x bad_lb))
def large (n : Int) : Ex := ⟨"TooLarge", [("count", .int n), ("limit", .int 8)]⟩
theorem need_spec (n : Int) : f_need_at_most [.int n, .int 8] S = if 8 < n then .er (large n) S else .ok .non S := by
  have key : outR (b_need_at_most (env0 2 [.int n, .int 8]) S) = if 8 < n then .er (large n) S else .ok .non S := by
    have e0 : env0 2 [.int n, .int 8] = [some (.int n), some (.int 8)] := rfl
    rw [e0]
    by_cases h : 8 < n
    · simp [b_need_at_most, h, large]
    · simp [b_need_at_most, h]
  unfold f_need_at_most
  by_cases h : 8 < n
  · rw [if_pos h] at key ⊢
    exact defM_er0 rfl key rfl
  · rw [if_neg h] at key ⊢
    exact defM_ok0 rfl key rfl
def freeOf (xs : List Int) : List Int := (xs.zipIdx.filterMap fun p => if p.1 = 2 then some (p.2 : Int) else none)
theorem free_houses_spec (h : Rm S d xs) : f_free_houses [d] S = if lone xs then .ok (.ktup (I (freeOf xs))) S else .er (badR xs) S := by
  have v1 : eVar 0 [some d, none, none] S = .ok d S := var_at rfl h.exn
  have key : outR (b_free_houses (env0 3 [d]) S) = if lone xs then .ok (.ktup (I (freeOf xs))) S else .er (badR xs) S := by
    have e0 : env0 3 [d] = [some d, none, none] := rfl
    rw [e0]
    simp [b_free_houses, v1, as_lone_room_spec h]
    cases e : lone xs with
    | false => simp
    | true =>
      have i1 : iEnumD [eVar 0] [some (.ktup (I xs)), none, none] S = .ok ⟨xs.zipIdx.map fun p => D.tup [.int (p.2 : Int), .int p.1], []⟩ S := by
        simp [iEnumD, seqA, seqL, seqT, enum_map, List.zipIdx_map]
      have c1 : ∀ acc, compF ⟨xs.zipIdx.map fun p => D.tup [.int (p.2 : Int), .int p.1], []⟩ (itemF (gTupD 2 (gsCons (gVar 1) (gsCons (gVar 2) gsNil))) (bOf (eBin fEq (eVar 2) (eC (D.int 2)))) (eVar 1) [some (.ktup (I xs)), none, none]) (xs.zipIdx.map fun p => D.tup [.int (p.2 : Int), .int p.1]) acc S = .ok (acc ++ xs.zipIdx.filterMap fun p => if p.1 = 2 then some (D.int p.2) else none) S := fun acc =>
        comp_map _ _ gOk_nils fun p hp => by
          by_cases z : p.1 = 2 <;> simp [asT, z]
      have e2 : (xs.zipIdx.filterMap fun p => if p.1 = 2 then some (D.int p.2) else none) = I (freeOf xs) := by
        unfold freeOf I
        rw [List.map_filterMap]
        congr 1
        funext p
        split <;> rfl
      simp [i1, wipeE, c1, e2, tupK_L (d := .lst (I (freeOf xs))) rfl]
  exact defM_pure rfl key (resOk_if (resOk_v lb_ktI) (resOk_x bad_lb))
end
end K02
/-! ## P02b -/
set_option Elab.async false
set_option linter.all false
set_option maxRecDepth 100000
set_option maxHeartbeats 2000000
namespace K02
open PySem PySem.Spec
open PyProof.Rows hiding St
open L2 EV0 EV
def dig (x : Int) : List Int := if x = 2 then [0, 1] else [x]
/-- a room's states -/
def LS : List Int → List (List Int)
  | [] => [[]]
  | x :: xs => (dig x).flatMap fun g => (LS xs).map (g :: ·)
def stp (sts : List (List Int)) (x : Int) : List (List Int) := sts.flatMap fun st => (dig x).map fun g => st ++ [g]
theorem stp_LS : ∀ (xs : List Int) (sts : List (List Int)), xs.foldl stp sts = sts.flatMap fun st => (LS xs).map (st ++ ·)
  | [], sts => by simp [LS, List.flatMap_singleton']
  | x :: xs, sts => by
    rw [List.foldl_cons, stp_LS xs]
    simp only [stp, LS]
    rw [List.flatMap_assoc]
    congr 1
    funext st
    rw [List.flatMap_map, List.map_flatMap]
    congr 1
    funext g
    rw [List.map_map]
    congr 1
    funext z
    simp
theorem stp_nil (xs : List Int) : xs.foldl stp [[]] = LS xs := by rw [stp_LS]; simp
abbrev T (sts : List (List Int)) : List D := sts.map fun st => .tup (I st)
theorem dig_len (x : Int) : (dig x).length = if x = 2 then 2 else 1 := by unfold dig; split <;> rfl
theorem stp_len (sts : List (List Int)) (x : Int) : (stp sts x).length = sts.length * (if x = 2 then 2 else 1) := by
  unfold stp
  rw [List.length_flatMap]
  simp only [List.length_map, dig_len]
  rw [List.map_const', List.sum_replicate_nat]
theorem stp_wide {sts : List (List Int)} {x : Int} {n : Nat} (h : ∀ st ∈ sts, st.length ≤ n) : ∀ st ∈ stp sts x, st.length ≤ n + 1 := by
  intro st hs
  unfold stp at hs
  simp only [List.mem_flatMap, List.mem_map] at hs
  obtain ⟨s0, h0, g, hg, rfl⟩ := hs
  have := h s0 h0
  simp; omega
section
variable {S : Store} {d e : D} {xs ys : List Int}
theorem lb_T {k : Nat} {sts : List (List Int)} : lbL k (T sts) = true := lbL_map fun _ _ => lb_tI
noncomputable abbrev st_body : SM := (sSeq (sAsg (eIf (bOf (eBin fEq (eVar 2) (eC (.int 2)))) (eTup [(eC (.int 0)), (eC (.int 1))]) (eTup [(eVar 2)])) (gVar 3)) (sAsg (eComp2 false (iPlain (eVar 1)) (gVar 4) bYes (iPlain (eVar 3)) (gVar 5) bYes (eBin fAdd (eVar 4) (eTup [(eVar 5)])) [4, 5] [5]) (gVar 1)))
theorem st_turn {r : D} {sts : List (List Int)} {o2 o3 : Option D} {x : Int} (h : sts.length * 2 ≤ 1000) (hw : ∀ st ∈ sts, st.length ≤ 100) :
    turnF (gVar 2) st_body (.int x) [some r, some (.lst (T sts)), o2, o3, none, none] S = .nx [some r, some (.lst (T (stp sts x))), some (.int x), some (.tup (I (dig x))), none, none] S := by
  have dg : (if x = 2 then D.tup [.int 0, .int 1] else .tup [.int x]) = .tup (I (dig x)) := by
    unfold dig I
    split <;> rfl
  have c1 : ∀ st ∈ sts, ∀ acc : List D, acc.length + ((dig x).map fun g => D.tup (I (st ++ [g]))).length ≤ 1000 → turn2 (gVar 4) bYes (iPlain (eVar 3)) (gVar 5) bYes (eBin fAdd (eVar 4) (eTup [(eVar 5)])) [5] [some r, some (.lst (T sts)), some (.int x), some (.tup (I (dig x))), none, none] (.tup (I st)) acc S = .ok (acc ++ (dig x).map fun g => D.tup (I (st ++ [g]))) S := by
    intro st hs acc ha
    have hz : acc.length + (dig x).length ≤ sizeLine := big_size (by rw [List.length_map] at ha; omega)
    have hst := hw st hs
    have hi : iterD S (.tup (I (dig x))) = some ⟨I (dig x), []⟩ := rfl
    have c2 := comp_map (it := ⟨I (dig x), []⟩) (S := S) (F := itemF (gVar 5) bYes (eBin fAdd (eVar 4) (eTup [(eVar 5)])) [some r, some (.lst (T sts)), some (.int x), some (.tup (I (dig x))), some (.tup (I st)), none]) D.int (fun g => some (D.tup (I (st ++ [g])))) (l := dig x) gOk_nils (fun g hg => by
      have : (I st).length + [D.int g].length ≤ sizeLine := big_size (by simp; omega)
      simp [add_tt this]) (acc := acc)
    simp [hi, hz, wipeE]
    simpa using c2
  have fl : (sts.flatMap fun st => (dig x).map fun g => D.tup (I (st ++ [g]))) = T (stp sts x) := by
    unfold stp T
    rw [List.map_flatMap]
    congr 1
    funext st
    rw [List.map_map]
    rfl
  have c3 := compG_bnd (it := ⟨T sts, []⟩) (S := S) (F := turn2 (gVar 4) bYes (iPlain (eVar 3)) (gVar 5) bYes (eBin fAdd (eVar 4) (eTup [(eVar 5)])) [5] [some r, some (.lst (T sts)), some (.int x), some (.tup (I (dig x))), none, none]) (fun st => D.tup (I st)) (fun st => (dig x).map fun g => D.tup (I (st ++ [g]))) 1000 (l := sts) gOk_nils c1 (acc := []) (by
    rw [fl, List.length_map, stp_len]
    simp only [List.length_nil]
    split <;> omega)
  rw [fl] at c3
  have hi : iterD S (.lst (T sts)) = some ⟨T sts, []⟩ := rfl
  by_cases hx : x = 2
  · subst hx
    have dg2 : D.tup [.int 0, .int 1] = .tup (I (dig 2)) := rfl
    simp [dg2, hi, wipeE, c3]
  · have dg2 : D.tup [.int x] = .tup (I (dig x)) := by simp [dig, hx, I]
    simp [hx, dg2, hi, wipeE, c3]
theorem st_loop {r : D} : ∀ (xs : List Int) {sts : List (List Int)} {o2 o3 : Option D}, sts.length * 2 ^ xs.count 2 ≤ 500 → xs.length ≤ 50 → (∀ st ∈ sts, st.length + xs.length ≤ 100) → ∃ o2' o3',
    loopF ⟨I ys, []⟩ (turnF (gVar 2) st_body) sNext (I xs) [some r, some (.lst (T sts)), o2, o3, none, none] S = .nx [some r, some (.lst (T (xs.foldl stp sts))), o2', o3', none, none] S
  | [], sts, o2, o3, _, _, _ => ⟨o2, o3, loop_nil gOk_nils⟩
  | x :: xs, sts, o2, o3, h, hl, hw => by
    have hp : 0 < 2 ^ xs.count 2 := Nat.pow_pos (by decide)
    have h2 : sts.length * (if x = 2 then 2 else 1) * 2 ^ xs.count 2 ≤ 500 := by
      by_cases hx : x = 2
      · subst hx
        rw [List.count_cons_self, Nat.pow_succ] at h
        simp only [if_true]
        rw [Nat.mul_assoc, Nat.mul_comm 2]
        exact h
      · rw [List.count_cons_of_ne (fun e => hx e)] at h
        simp only [if_neg hx, Nat.mul_one]
        exact h
    have h3 : sts.length ≤ 500 := by
      have : sts.length * 1 ≤ sts.length * 2 ^ (x :: xs).count 2 := Nat.mul_le_mul_left _ (Nat.pow_pos (by decide))
      omega
    have t := st_turn (S := S) (r := r) (o2 := o2) (o3 := o3) (x := x) (sts := sts) (by omega) (fun st hs => by have := hw st hs; omega)
    obtain ⟨o2', o3', q⟩ := st_loop (r := r) xs (sts := stp sts x) (o2 := some (.int x)) (o3 := some (.tup (I (dig x)))) (by rw [stp_len]; exact h2) (by simp at hl; omega) (fun st hs => by
      have := stp_wide (x := x) (n := 99 - xs.length) (fun st hs => by have := hw st hs; simp at this; omega) st hs
      simp at hl
      omega)
    refine ⟨o2', o3', ?_⟩
    show loopF _ _ _ (D.int x :: I xs) _ _ = _
    rw [loop_cons gOk_nils, t]
    exact q
theorem states_of_spec (h : Rm S d xs) : f_states_of [d] S = if lone xs then (if 8 < (xs.count 2 : Int) then .er (large (xs.count 2 : Nat)) S else .ok (.ktup (T (LS xs))) S) else .er (badR xs) S := by
  have v1 : eVar 0 [some d, none, none, none, none, none] S = .ok d S := var_at rfl h.exn
  have hc : eMeth2 (some fmCountL) (some fmCountT) (eVar 0) [eC (.int 2)] [some (.ktup (I xs)), none, none, none, none, none] S = .ok (.int (xs.count 2 : Nat)) S := by
    rw [meth_T (S := S) (ds := I xs) (by simp)]
    simp [countT_ints]
  have key : outR (b_states_of (env0 6 [d]) S) = if lone xs then (if 8 < (xs.count 2 : Int) then .er (large (xs.count 2 : Nat)) S else .ok (.ktup (T (LS xs))) S) else .er (badR xs) S := by
    have e0 : env0 6 [d] = [some d, none, none, none, none, none] := rfl
    rw [e0]
    simp [b_states_of, v1, as_lone_room_spec h]
    cases e : lone xs with
    | false => simp
    | true =>
      have e' := e
      simp [lone] at e'
      by_cases hc8 : 8 < (xs.count 2 : Int)
      · simp [hc, need_spec, hc8]
      · have h8 : xs.count 2 ≤ 8 := by omega
        have h256 : 2 ^ xs.count 2 ≤ 2 ^ 8 := Nat.pow_le_pow_right (by decide) h8
        obtain ⟨o2, o3, q⟩ := st_loop (S := S) (ys := xs) (r := .ktup (I xs)) xs (sts := [[]]) (o2 := none) (o3 := none) (by simp; omega) (by omega) (by simp; omega)
        have hi : iterD S (.ktup (I xs)) = some ⟨I xs, []⟩ := rfl
        rw [stp_nil] at q
        simp [hc, need_spec, hc8, hi]
        simp [st_body] at q
        simp [q, tupK_L (d := .lst (T (LS xs))) rfl]
  refine defM_pure rfl key (resOk_if (resOk_if (resOk_x rfl) (resOk_v lb_T)) (resOk_x bad_lb))
end
end K02
/-! ## P02c -/
set_option Elab.async false
set_option linter.all false
set_option maxRecDepth 100000
set_option maxHeartbeats 2000000
namespace K02
open PySem PySem.Spec
open PyProof.Rows hiding St
open L2 EV0 EV
/-- each house that is not free around has the mark around -/
def insB (p : Int × Int) : Bool := p.2 == 2 || p.1 == p.2
def ins (xs ys : List Int) : Bool := (xs.zip ys).all insB
section
variable {S : Store} {d e : D} {xs ys : List Int}
theorem is_inside_spec : f_is_inside [.ktup (I xs), .ktup (I ys)] S = .ok (.bl (ins xs ys)) S := by
  have key : outR (b_is_inside (env0 4 [.ktup (I xs), .ktup (I ys)]) S) = .ok (.bl (ins xs ys)) S := by
    have e0 : env0 4 [.ktup (I xs), .ktup (I ys)] = [some (.ktup (I xs)), some (.ktup (I ys)), none, none] := rfl
    rw [e0]
    have hz : iZipD [eVar 0, eVar 1] [some (.ktup (I xs)), some (.ktup (I ys)), none, none] S = .ok ⟨(xs.zip ys).map fun p => D.tup [.int p.1, .int p.2], []⟩ S := by
      simp [iZipD, seqL, seqT, zip_map, List.zip_map]
    have L := loop_chk (it := ⟨(xs.zip ys).map fun p => D.tup [.int p.1, .int p.2], []⟩) (S := S) (els := sNext) (body := turnF (gTupD 2 (gsCons (gVar 2) (gsCons (gVar 3) gsNil))) (sIf (bAnd (bOf (eBin fNe (eVar 3) (eC (.int 2)))) (bOf (eBin fNe (eVar 2) (eVar 3)))) (sRet (eC (.bl false))) sNext))
      (P := fun env => ∃ o o', env = [some (.ktup (I xs)), some (.ktup (I ys)), o, o']) (l := xs.zip ys) (fun p => D.tup [.int p.1, .int p.2]) insB (fun _ o => o = .rt (.bl false) S) gOk_nils (fun x o e => .inl ⟨_, _, e⟩)
      (fun env x ⟨o, o', e⟩ hx => by
        subst e
        cases ex : insB x with
        | true =>
          unfold insB at ex
          by_cases h2 : x.2 = 2
          · simp [asT, h2]
          · simp [h2] at ex
            simp [asT, h2, ex]
        | false =>
          simp [insB] at ex
          simp [asT, ex]) ⟨none, none, rfl⟩
    cases ef : (xs.zip ys).find? (fun x => !insB x) with
    | none =>
      rw [ef] at L
      obtain ⟨env', ⟨o, o', rfl⟩, q⟩ := L
      have : ins xs ys = true := by
        unfold ins
        rw [List.all_eq_true]
        intro x hx
        have := List.find?_eq_none.mp ef x hx
        simpa using this
      simp [b_is_inside, hz, q, this]
    | some x =>
      rw [ef] at L
      have hx := List.find?_some ef
      have hm := List.mem_of_find?_eq_some ef
      have : ins xs ys = false := by
        unfold ins
        rw [List.all_eq_false]
        exact ⟨x, hm, by simpa using hx⟩
      have L : loopF _ _ _ _ _ _ = _ := L
      simp [b_is_inside, hz, L, this]
  exact defM_pure rfl key (resOk_v rfl)
theorem lies_within_spec (h : Rm S d xs) (h' : Rm S e ys) : f_lies_within [d, e] S = if lone xs then (if okR xs.length ys then .ok (.bl (ins xs ys)) S else .er (badR ys) S) else .er (badR xs) S := by
  have v0 : eVar 0 [some d, some e] S = .ok d S := var_at rfl h.exn
  have v1 : eVar 1 [some (.ktup (I xs)), some e] S = .ok e S := var_at rfl h'.exn
  have hl : fLen [.ktup (I xs)] S = .ok (.int xs.length) S := Rm.k.len
  have key : outR (b_lies_within (env0 2 [d, e]) S) = if lone xs then (if okR xs.length ys then .ok (.bl (ins xs ys)) S else .er (badR ys) S) else .er (badR xs) S := by
    have e0 : env0 2 [d, e] = [some d, some e] := rfl
    rw [e0]
    cases e1 : lone xs with
    | false => simp [b_lies_within, v0, as_lone_room_spec h, e1]
    | true =>
      cases e2 : okR xs.length ys with
      | false => simp [b_lies_within, v0, v1, as_lone_room_spec h, hl, as_room_spec _ h', e1, e2]
      | true => simp [b_lies_within, v0, v1, as_lone_room_spec h, hl, as_room_spec _ h', e1, e2, is_inside_spec]
  exact defM_pure rfl key (resOk_if (resOk_if (resOk_v rfl) (resOk_x bad_lb)) (resOk_x bad_lb))
theorem law_inside_spec (h : asQ S d = some (I xs)) (h' : asQ S e = some (I ys)) (hl : xs.length ≤ ys.length) (hz : xs.length ≤ 1000) : f_law_inside [d, e] S = .ok (.bl (ins xs ys)) S := by
  have v0 : ∀ {o}, eVar 0 [some d, some e, o] S = .ok d S := fun {o} => varQ rfl h
  have v1 : ∀ {o}, eVar 1 [some d, some e, o] S = .ok e S := fun {o} => varQ rfl h'
  have key : outR (b_law_inside (env0 3 [d, e]) S) = .ok (.bl (ins xs ys)) S := by
    have e0 : env0 3 [d, e] = [some d, some e, none] := rfl
    rw [e0]
    have hr : iRange [eApp fLen [eVar 0]] [some d, some e, none] S = .ok ⟨(List.range xs.length).map fun (k : Nat) => D.int k, []⟩ S := by
      have := range1 (m := eApp fLen [eVar 0]) (env := [some d, some e, none]) (S0 := S) (S := S) (j := xs.length) (by simp [v0, lenQ h]) (by omega) (by omega)
      simpa using this
    have c := comp_map (it := ⟨(List.range xs.length).map fun (k : Nat) => D.int k, []⟩) (S := S) (F := itemF (gVar 2) (bAnd (bOf (eBin fNe (eBin fIx (eVar 1) (eVar 2)) (eC (.int 2)))) (bOf (eBin fNe (eBin fIx (eVar 0) (eVar 2)) (eBin fIx (eVar 1) (eVar 2))))) (eVar 2) [some d, some e, none]) (fun (k : Nat) => D.int k)
      (fun k => if insB (xs.getD k 0, ys.getD k 0) then none else some (D.int k)) (l := List.range xs.length) gOk_nils (fun k hk => by
        have hk1 : k < xs.length := by simpa using hk
        have hk2 : k < ys.length := by omega
        simp [v0, v1, ixI h hk1, ixI h' hk2, insB, hk1, hk2]
        by_cases z1 : ys[k] = 2
        · simp [z1]
        · by_cases z2 : xs[k] = ys[k] <;> simp [z1, z2]) (acc := [])
    have em : (((List.range xs.length).filterMap fun k => if insB (xs.getD k 0, ys.getD k 0) then none else some (D.int k)).isEmpty) = ins xs ys := by
      rw [Bool.eq_iff_iff]
      simp only [List.isEmpty_iff, List.filterMap_eq_nil_iff, List.mem_range, ins, List.all_eq_true]
      constructor
      · intro H p hp
        obtain ⟨k, hk, ek⟩ := List.getElem_of_mem hp
        have hk1 : k < xs.length := by simp at hk; omega
        have hk2 : k < ys.length := by omega
        have := H k hk1
        simp [hk1, hk2] at this
        rw [← ek]
        simpa using this
      · intro H k hk
        have hk2 : k < ys.length := by omega
        have := H (xs[k], ys[k]) (by
          rw [List.mem_iff_getElem]
          exact ⟨k, by simp; omega, by simp⟩)
        simp [hk, hk2, this]
    simp only [List.nil_append] at c
    simp only [List.getD_eq_getElem?_getD] at em
    simp [b_law_inside, hr, wipeE, c, fNot, truD, em]
  exact defM_pure rfl key (resOk_v rfl)
theorem law_truth_spec (a b : Bool) : f_law_truth [.bl a, .bl b] S = .ok (.bl (a == b)) S := by
  have key : outR (b_law_truth (env0 2 [.bl a, .bl b]) S) = .ok (.bl (a == b)) S := by
    have e0 : env0 2 [.bl a, .bl b] = [some (.bl a), some (.bl b)] := rfl
    rw [e0]
    have hq : fEq (.bl a) (.bl b) S = .ok (.bl (a == b)) S := by
      rw [fEq_py (p := .bool a) (q := .bool b) rfl rfl rfl rfl]
      rfl
    have hi : fIsi [.bl a, .ty "bool"] S = .ok (.bl true) S := by
      simp [fIsi, tyN, isiB]
    simp [b_law_truth, hq, hi]
  exact defM_pure rfl key (resOk_v rfl)
/-! ### _law_states -/
theorem LS_all {x : Int} (h : okM x = true) (xs : List Int) : LS (x :: xs) = (if x ≠ 1 then (LS xs).map (0 :: ·) else []) ++ (if x ≠ 0 then (LS xs).map (1 :: ·) else []) := by
  simp [okM] at h
  rcases h with (h | h) | h <;> subst h <;> simp [LS, dig]
theorem LS_len : ∀ (xs : List Int), (LS xs).length = 2 ^ xs.count 2
  | [] => rfl
  | x :: xs => by
    simp only [LS, List.length_flatMap, List.length_map, LS_len xs]
    rw [List.map_const', List.sum_replicate_nat, dig_len]
    by_cases h : x = 2
    · subst h
      rw [List.count_cons_self, Nat.pow_succ]
      simp [Nat.mul_comm]
    · rw [List.count_cons_of_ne (fun e => h e)]
      simp [h]
theorem LS_wide : ∀ {xs st : List Int}, st ∈ LS xs → st.length = xs.length
  | [], st, h => by simp [LS] at h; subst h; rfl
  | x :: xs, st, h => by
    simp only [LS, List.mem_flatMap, List.mem_map] at h
    obtain ⟨g, _, s0, h0, rfl⟩ := h
    simp [LS_wide h0]
noncomputable abbrev ls_body : SM := (sSeq (sAsg (eBin fIx (eVar 0) (eBin fSub (eBin fSub (eApp fLen [(eVar 0)]) (eC (.int 1))) (eVar 2))) (gVar 3)) (sSeq (sAsg (eComp false (iPlain (eVar 1)) (gVar 6) (bOf (eBin fNe (eVar 3) (eC (.int 1)))) (eBin fAdd (eTup [(eC (.int 0))]) (eVar 6)) [6]) (gVar 4)) (sSeq (sAsg (eComp false (iPlain (eVar 1)) (gVar 6) (bOf (eBin fNe (eVar 3) (eC (.int 0)))) (eBin fAdd (eTup [(eC (.int 1))]) (eVar 6)) [6]) (gVar 5)) (sAsg (eBin fAdd (eVar 4) (eVar 5)) (gVar 1)))))
theorem ls_turn {x : Int} {k : Nat} {o3 o4 o5 : Option D} {o2 : Option D} (h : asQ S d = some (I xs)) (hk : k < xs.length) (hx : okM xs[xs.length - 1 - k] = true) (hc : xs.count 2 ≤ 8) (hn : xs.length ≤ 100) :
    turnF (gVar 2) ls_body (.int k) [some d, some (.lst (T (LS (xs.drop (xs.length - k))))), o2, o3, o4, o5, none] S = .nx [some d, some (.lst (T (LS (xs.drop (xs.length - (k + 1)))))), some (.int k), some (.int xs[xs.length - 1 - k]), some (.lst (T (if xs[xs.length - 1 - k] ≠ 1 then (LS (xs.drop (xs.length - k))).map (0 :: ·) else []))), some (.lst (T (if xs[xs.length - 1 - k] ≠ 0 then (LS (xs.drop (xs.length - k))).map (1 :: ·) else []))), none] S := by
  have v0 : ∀ {l}, eVar 0 (some d :: l) S = .ok d S := fun {l} => varQ rfl h
  have hix : fIx d (.int ((xs.length : Int) - 1 - k)) S = .ok (.int xs[xs.length - 1 - k]) S := by
    have e : (xs.length : Int) - 1 - k = ((xs.length - 1 - k : Nat) : Int) := by omega
    rw [e]
    exact ixI h (by omega)
  have hd : xs.drop (xs.length - (k + 1)) = xs[xs.length - 1 - k] :: xs.drop (xs.length - k) := by
    have e : xs.length - (k + 1) = xs.length - 1 - k := by omega
    rw [e, List.drop_eq_getElem_cons (by omega)]
    congr 2
    omega
  have hcd : (xs.drop (xs.length - k)).count 2 ≤ 8 := Nat.le_trans (List.Sublist.count_le 2 (List.drop_sublist _ _)) hc
  have hlen : (LS (xs.drop (xs.length - k))).length ≤ 256 := by
    rw [LS_len]
    exact Nat.pow_le_pow_right (n := 2) (by decide) hcd
  have hl2 := LS_all hx (xs.drop (xs.length - k))
  rw [← hd] at hl2
  generalize hz : xs[xs.length - 1 - k] = z at *
  generalize hs : LS (xs.drop (xs.length - k)) = sts at *
  have hw : ∀ st ∈ sts, st.length ≤ 100 := fun st q => by
    rw [← hs] at q
    have := LS_wide q
    rw [List.length_drop] at this
    omega
  have cm : ∀ (g v : Int) (o4 : Option D), compF ⟨T sts, []⟩ (itemF (gVar 6) (bOf (eBin fNe (eVar 3) (eC (.int v)))) (eBin fAdd (eTup [(eC (.int g))]) (eVar 6)) [some d, some (.lst (T sts)), some (.int k), some (.int z), o4, o5, none]) (T sts) [] S = .ok (T (if z ≠ v then sts.map (g :: ·) else [])) S := fun g v o4 => by
    have c := comp_map (it := ⟨T sts, []⟩) (S := S) (F := itemF (gVar 6) (bOf (eBin fNe (eVar 3) (eC (.int v)))) (eBin fAdd (eTup [(eC (.int g))]) (eVar 6)) [some d, some (.lst (T sts)), some (.int k), some (.int z), o4, o5, none]) (fun st => D.tup (I st)) (fun st => if z ≠ v then some (D.tup (I (g :: st))) else none) (l := sts) gOk_nils (fun st hst => by
      have hst := hw st hst
      have : [D.int g].length + (I st).length ≤ sizeLine := big_size (by simp; omega)
      by_cases zv : z = v
      · simp [zv]
      · simp [zv, add_tt this]) (acc := [])
    rw [c]
    by_cases zv : z = v
    · simp [zv]
    · simp [zv]
  have hi : iterD S (.lst (T sts)) = some ⟨T sts, []⟩ := rfl
  have ha : fAdd (.lst (T (if z ≠ 1 then sts.map (0 :: ·) else []))) (.lst (T (if z ≠ 0 then sts.map (1 :: ·) else []))) S = .ok (.lst (T (LS (xs.drop (xs.length - (k + 1)))))) S := by
    rw [add_ll, hl2]
    · simp only [T, List.map_append]
    · refine big_size ?_
      rw [List.length_map, List.length_map]
      split <;> split <;> simp <;> omega
  simp at ha
  simp [v0, lenQ h, hix, hi, wipeE, cm, ha]
theorem law_states_spec (h : asQ S d = some (I xs)) (ho : xs.all okM = true) (hc : xs.count 2 ≤ 8) (hn : xs.length ≤ 100) : f_law_states [d] S = .ok (.lst (T (LS xs))) S := by
  have v0 : ∀ {l}, eVar 0 (some d :: l) S = .ok d S := fun {l} => varQ rfl h
  have key : outR (b_law_states (env0 7 [d]) S) = .ok (.lst (T (LS xs))) S := by
    have e0 : env0 7 [d] = [some d, none, none, none, none, none, none] := rfl
    rw [e0]
    have hr : iRange [eApp fLen [eVar 0]] [some d, some (.lst [.tup []]), none, none, none, none, none] S = .ok ⟨(List.range xs.length).map fun (k : Nat) => D.int k, []⟩ S := by
      have := range1 (m := eApp fLen [eVar 0]) (env := [some d, some (.lst [.tup []]), none, none, none, none, none]) (S0 := S) (S := S) (j := xs.length) (by simp [v0, lenQ h]) (by omega) (by omega)
      simpa using this
    have go : ∀ m k, k + m = xs.length → ∀ o2 o3 o4 o5, ∃ o2' o3' o4' o5', loopF ⟨(List.range xs.length).map fun (k : Nat) => D.int k, []⟩ (turnF (gVar 2) ls_body) sNext ((List.range' k m).map fun (k : Nat) => D.int k) [some d, some (.lst (T (LS (xs.drop (xs.length - k))))), o2, o3, o4, o5, none] S = .nx [some d, some (.lst (T (LS xs))), o2', o3', o4', o5', none] S := by
      intro m
      induction m with
      | zero =>
        intro k hk o2 o3 o4 o5
        have : k = xs.length := by omega
        subst this
        refine ⟨o2, o3, o4, o5, ?_⟩
        rw [Nat.sub_self, List.drop_zero]
        exact loop_nil gOk_nils
      | succ m ih =>
        intro k hk o2 o3 o4 o5
        have hx : okM xs[xs.length - 1 - k] = true := List.all_eq_true.mp ho _ (List.getElem_mem _)
        obtain ⟨a, b, c, e, q⟩ := ih (k + 1) (by omega) (some (.int k)) (some (.int xs[xs.length - 1 - k])) (some (.lst (T (if xs[xs.length - 1 - k] ≠ 1 then (LS (xs.drop (xs.length - k))).map (0 :: ·) else [])))) (some (.lst (T (if xs[xs.length - 1 - k] ≠ 0 then (LS (xs.drop (xs.length - k))).map (1 :: ·) else []))))
        refine ⟨a, b, c, e, ?_⟩
        rw [List.range'_succ, List.map_cons, loop_cons gOk_nils, ls_turn (x := 0) h (by omega) hx hc hn]
        exact q
    obtain ⟨a, b, c, e, q⟩ := go xs.length 0 (by omega) none none none none
    rw [Nat.sub_zero, List.drop_length, ← List.range_eq_range'] at q
    have q : loopF ⟨(List.range xs.length).map fun (k : Nat) => D.int k, []⟩ (turnF (gVar 2) ls_body) sNext ((List.range xs.length).map fun (k : Nat) => D.int k) [some d, some (.lst [.tup []]), none, none, none, none, none] S = .nx [some d, some (.lst (T (LS xs))), a, b, c, e, none] S := q
    simp only [ls_body] at q
    simp only [b_law_states, ap_sSeq, ap_sAsg, ap_eLst, ap_cons, ap_nil, ap_eTup, bind_ok, mkL_f, R.then_ok, ap_gVar, ap_sFor, hr]
    simp [hr, q]
  exact defM_pure rfl key (resOk_v lb_T)
end
end K02
/-! ## P02d -/
set_option Elab.async false
set_option linter.all false
set_option maxRecDepth 100000
set_option maxHeartbeats 2000000
namespace K02
open PySem PySem.Spec
open PyProof.Rows hiding St
open L2 EV0 EV
/-- the same ints in the same tuples, k deep -/
def Sm : Nat → D → D → Prop
  | 0, a, e => ∃ i, a = .int i ∧ e = .int i
  | k + 1, a, e => ∃ ds es, asT a = some ds ∧ asT e = some es ∧ ds.length = es.length ∧ es.length ≤ 1000 ∧ ∀ i, i < es.length → ∃ x y, ds[i]? = some x ∧ es[i]? = some y ∧ Sm k x y
section
variable {S : Store} {a e : D} {xs ys : List Int}
theorem isi_tup {d : D} {ds : List D} (h : asT d = some ds) : fIsi [d, .ty "tuple"] S = .ok (.bl true) S ∧ isN d = false ∧ ∀ c fs, d ≠ .exn c fs := by
  cases d <;> first | (cases h; done) | (refine ⟨by simp [fIsi, tyN, isiB], rfl, fun c fs e => nomatch e⟩)
theorem same_non {k : Nat} : f_law_same (k + 1) [.non, .non] S = .ok (.bl true) S := by
  have key : outR (b_law_same (f_law_same k) (env0 3 [.non, .non]) S) = .ok (.bl true) S := by
    have e0 : env0 3 [.non, .non] = [some .non, some .non, none] := rfl
    rw [e0]
    simp [b_law_same, isN]
  exact defM_pure rfl key (resOk_v rfl)
/-- more fuel does no harm -/
theorem Sm.one (ha : asT a = some (I xs)) (he : asT e = some (I xs)) (hz : xs.length ≤ 1000) : Sm 1 a e :=
  ⟨_, _, ha, he, rfl, by simpa using hz, fun i hi => ⟨.int xs[i]!, .int xs[i]!, by simp at hi; simp [hi], by simp at hi; simp [hi], _, rfl, rfl⟩⟩
theorem Sm.two {sts : List (List Int)} (ha : asT a = some (T sts)) (he : asT e = some (T sts)) (hz : sts.length ≤ 1000) (hw : ∀ st ∈ sts, st.length ≤ 1000) : Sm 2 a e :=
  ⟨_, _, ha, he, rfl, by simpa using hz, fun i hi => by
    have hi : i < sts.length := by simpa using hi
    exact ⟨.tup (I sts[i]), .tup (I sts[i]), by simp [hi], by simp [hi], Sm.one rfl rfl (hw _ (List.getElem_mem _))⟩⟩
theorem same_mono : ∀ (j k : Nat) {a e : D}, Sm j a e → j ≤ k → f_law_same (k + 1) [a, e] S = .ok (.bl true) S := by
  intro j
  induction j with
  | zero =>
    intro k a e h _
    obtain ⟨i, rfl, rfl⟩ := h
    have key : outR (b_law_same (f_law_same k) (env0 3 [.int i, .int i]) S) = .ok (.bl true) S := by
      have e0 : env0 3 [.int i, .int i] = [some (.int i), some (.int i), none] := rfl
      rw [e0]
      have h1 : fIsi [.int i, .ty "tuple"] S = .ok (.bl false) S := by simp [fIsi, tyN, isiB]
      have h2 : fIsi [.int i, .ty "int"] S = .ok (.bl true) S := by simp [fIsi, tyN, isiB]
      have h3 : fIsi [.int i, .ty "bool"] S = .ok (.bl false) S := by simp [fIsi, tyN, isiB]
      simp [b_law_same, isN, h1, h2, h3, fNot]
    exact defM_pure rfl key (resOk_v rfl)
  | succ j ih =>
    intro k a e h hk
    match k, hk with
    | k + 1, hk =>
      obtain ⟨ds, es, ha, he, hl, hz, hs⟩ := h
      obtain ⟨a1, a2, a3⟩ := isi_tup (S := S) ha
      obtain ⟨e1, e2, e3⟩ := isi_tup (S := S) he
      have v0 : ∀ {l}, eVar 0 (some a :: l) S = .ok a S := fun {l} => var_at rfl a3
      have v1 : ∀ {x l}, eVar 1 (x :: some e :: l) S = .ok e S := fun {x l} => var_at rfl e3
      have key : outR (b_law_same (f_law_same (k + 1)) (env0 3 [a, e]) S) = .ok (.bl true) S := by
        have e0 : env0 3 [a, e] = [some a, some e, none] := rfl
        rw [e0]
        have hr : iRange [eApp fLen [eVar 1]] [some a, some e, none] S = .ok ⟨(List.range es.length).map fun (k : Nat) => D.int k, []⟩ S := by
          have := range1 (m := eApp fLen [eVar 1]) (env := [some a, some e, none]) (S0 := S) (S := S) (j := es.length) (by simp [v1, len_Q (asQ_T he)]) (by omega) (by omega)
          simpa using this
        have c := comp_map (it := ⟨(List.range es.length).map fun (k : Nat) => D.int k, []⟩) (S := S) (F := itemF (gVar 2) (bNot (bTru (eApp (f_law_same (k + 1)) [(eBin fIx (eVar 0) (eVar 2)), (eBin fIx (eVar 1) (eVar 2))]))) (eVar 2) [some a, some e, none]) (fun (k : Nat) => D.int k)
          (fun i => (none : Option D)) (l := List.range es.length) gOk_nils (fun i hi => by
            have hi : i < es.length := by simpa using hi
            obtain ⟨x, y, hx, hy, hxy⟩ := hs i hi
            have ih := ih k hxy (by omega)
            simp [v0, v1, ix_Q (asQ_T ha) hx, ix_Q (asQ_T he) hy, ih]) (acc := [])
        simp at c
        simp [b_law_same, v0, v1, e2, a1, e1, len_Q (asQ_T ha), len_Q (asQ_T he), hl, hr, wipeE, c, fNot, truD]
      exact defM_pure rfl key (resOk_v rfl)
theorem same1 (ha : asT a = some (I xs)) (he : asT e = some (I xs)) (hz : xs.length ≤ 1000) : f_law_same 4 [a, e] S = .ok (.bl true) S := same_mono 1 3 (Sm.one ha he hz) (by decide)
theorem same2 {sts : List (List Int)} (ha : asT a = some (T sts)) (he : asT e = some (T sts)) (hz : sts.length ≤ 1000) (hw : ∀ st ∈ sts, st.length ≤ 1000) : f_law_same 4 [a, e] S = .ok (.bl true) S := same_mono 2 3 (Sm.two ha he hz hw) (by decide)
/-! ### _law_lone_answers -/
/-- rows that are rooms of one size -/
structure Rms (S : Store) (n : Nat) (ds : List D) (rs : List (List Int)) : Prop where
  len : ds.length = rs.length
  at_ : ∀ i (h : i < rs.length), ∃ d, ds[i]? = some d ∧ Rm S d rs[i]
  ok : ∀ r ∈ rs, r.length = n ∧ r.all okM = true
  n1 : 1 ≤ n
  n12 : n ≤ 12
theorem Rms.lone {n : Nat} {ds : List D} {rs : List (List Int)} (h : Rms S n ds rs) {r : List Int} (hr : r ∈ rs) : lone r = true := by
  obtain ⟨h1, h2⟩ := h.ok r hr
  have := h.n1
  have := h.n12
  simp [K02.lone, h1, h2]
  omega
theorem Rms.okR {n : Nat} {ds : List D} {rs : List (List Int)} (h : Rms S n ds rs) {r r' : List Int} (hr : r ∈ rs) (hr' : r' ∈ rs) : okR r.length r' = true := by
  obtain ⟨h1, h2⟩ := h.ok r hr
  obtain ⟨h3, h4⟩ := h.ok r' hr'
  simp [K02.okR, h1, h3, h4]
/-- the items with their rows -/
theorem Rms.mem {n : Nat} {ds : List D} {rs : List (List Int)} (h : Rms S n ds rs) {d : D} (hd : d ∈ ds) : ∃ r ∈ rs, Rm S d r := by
  obtain ⟨i, hi, rfl⟩ := List.getElem_of_mem hd
  have hi' : i < rs.length := by rw [← h.len]; exact hi
  obtain ⟨d', h1, h2⟩ := h.at_ i hi'
  rw [List.getElem?_eq_getElem hi] at h1
  cases h1
  exact ⟨rs[i], List.getElem_mem _, h2⟩
theorem free_law {d : D} {r1 r2 r3 r4 : Option D} {d0 : D} (h : asQ S d = some (I xs)) (hz : xs.length ≤ 1000) : eComp false (iRange [(eApp fLen [(eVar 1)])]) (gVar 4) (bOf (eBin fEq (eBin fIx (eVar 1) (eVar 4)) (eC (.int 2)))) (eVar 4) [4] [some d0, some d, r2, r3, r4] S = .ok (.lst (I (freeOf xs))) S := by
  have v1 : ∀ {x l}, eVar 1 (x :: some d :: l) S = .ok d S := fun {x l} => varQ rfl h
  have hr : iRange [eApp fLen [eVar 1]] [some d0, some d, r2, r3, r4] S = .ok ⟨(List.range xs.length).map fun (k : Nat) => D.int k, []⟩ S := by
    have := range1 (m := eApp fLen [eVar 1]) (env := [some d0, some d, r2, r3, r4]) (S0 := S) (S := S) (j := xs.length) (by simp [v1, lenQ h]) (by omega) (by omega)
    simpa using this
  have c := comp_map (it := ⟨(List.range xs.length).map fun (k : Nat) => D.int k, []⟩) (S := S) (F := itemF (gVar 4) (bOf (eBin fEq (eBin fIx (eVar 1) (eVar 4)) (eC (.int 2)))) (eVar 4) [some d0, some d, r2, r3, none]) (fun (k : Nat) => D.int k)
    (fun i => if xs.getD i 0 = 2 then some (D.int i) else none) (l := List.range xs.length) gOk_nils (fun i hi => by
      have hi : i < xs.length := by simpa using hi
      by_cases z : xs[i] = 2
      · simp [v1, ixI h hi, z, hi]
      · simp [v1, ixI h hi, z, hi]) (acc := [])
  have e : ((List.range xs.length).filterMap fun i => if xs.getD i 0 = 2 then some (D.int i) else none) = I (freeOf xs) := by
    unfold freeOf I
    rw [List.map_filterMap]
    have z : xs.zipIdx = (List.range xs.length).map fun i => (xs.getD i 0, i) := by
      apply List.ext_getElem
      · simp
      · intro i h1 h2
        simp at h1
        simp [h1]
    rw [z, List.filterMap_map]
    congr 1
    funext i
    simp only [Function.comp]
    split <;> rfl
  rw [e] at c
  simp only [List.nil_append] at c
  simp [hr, wipeE, c]
theorem free_len : (freeOf xs).length = xs.count 2 := by
  unfold freeOf
  have go : ∀ (xs : List Int) (k : Nat), ((xs.zipIdx k).filterMap fun p => if p.1 = 2 then some (p.2 : Int) else none).length = xs.count 2 := by
    intro xs
    induction xs with
    | nil => intro k; rfl
    | cons x xs ih =>
      intro k
      rw [List.zipIdx_cons, List.filterMap_cons]
      by_cases h : x = 2
      · subst h
        simp [ih]
      · simp [h, ih, List.count_cons_of_ne (fun e => h e)]
  exact go xs 0
theorem loop_true {it : ItS} {body : D → EV.Env → Store → SO} {els : SM} {P : EV.Env → Prop} (hg : gOk S it) : ∀ {ds : List D}, (∀ env d, P env → d ∈ ds → ∃ env', body d env S = .nx env' S ∧ P env') → ∀ {env : EV.Env}, P env → ∃ env', P env' ∧ loopF it body els ds env S = els env' S
  | [], _, env, h => ⟨env, h, loop_nil hg⟩
  | d :: ds, hb, env, h => by
    obtain ⟨env', h1, h2⟩ := hb env d h (by simp)
    rw [loop_cons hg, h1]
    exact loop_true hg (fun env d p hd => hb env d p (by simp [hd])) h2
noncomputable abbrev la_in : SM := (sIf (bNot (bTru (eApp f_law_truth [(eApp f_lies_within [(eVar 1), (eVar 3)]), (eApp f_law_inside [(eVar 1), (eVar 3)])]))) (sRet (eC (.bl false))) sNext)
noncomputable abbrev la_body : SM := (sSeq (sAsg (eComp false (iRange [(eApp fLen [(eVar 1)])]) (gVar 4) (bOf (eBin fEq (eBin fIx (eVar 1) (eVar 4)) (eC (.int 2)))) (eVar 4) [4]) (gVar 2)) (sSeq (sIf (bNot (bTru (eApp (f_law_same 4) [(eApp f_free_houses [(eVar 1)]), (eApp fTupleK [(eVar 2)])]))) (sRet (eC (.bl false))) sNext) (sSeq (sIf (bAnd (bOf (eBin fLe (eApp fLen [(eVar 2)]) (eC (.int 8)))) (bNot (bTru (eApp (f_law_same 4) [(eApp f_states_of [(eVar 1)]), (eApp fTupleK [(eApp f_law_states [(eVar 1)])])])))) (sRet (eC (.bl false))) sNext) (sFor (iPlain (eVar 0)) (gVar 3) la_in sNext))))
theorem la_turn {n : Nat} {ds : List D} {rs : List (List Int)} (h : Rms S n ds rs) {d : D} (hd : d ∈ ds) {o1 o2 o3 o4 : Option D} : ∃ env', turnF (gVar 1) la_body d [some (.lst ds), o1, o2, o3, o4] S = .nx env' S ∧ ∃ o1 o2 o3 o4, env' = [some (.lst ds), o1, o2, o3, o4] := by
  obtain ⟨r, hr, rm⟩ := h.mem hd
  have hlo := h.lone hr
  obtain ⟨hrn, hrm⟩ := h.ok r hr
  have := h.n12
  have v1 : ∀ {x l}, eVar 1 (x :: some d :: l) S = .ok d S := fun {x l} => varQ rfl rm.q
  have fl := free_len (xs := r)
  have hfz : (freeOf r).length ≤ 1000 := by rw [fl]; exact Nat.le_trans List.count_le_length (by omega)
  have fr := fun {r2 r3 r4 d0} => free_law (S := S) (xs := r) (d := d) (r1 := none) (r2 := r2) (r3 := r3) (r4 := r4) (d0 := d0) rm.q (by omega)
  have s1 : f_law_same 4 [.ktup (I (freeOf r)), .ktup (I (freeOf r))] S = .ok (.bl true) S := same1 rfl rfl hfz
  have tk : ∀ {es}, fTupleK [.lst es] S = .ok (.ktup es) S := fun {es} => tupK_L rfl
  have hlen : fLen [.lst (I (freeOf r))] S = .ok (.int (r.count 2 : Nat)) S := by rw [lenQ rfl, fl]
  have inner : ∀ o2 o3 o4, ∃ env', (∃ o1 o2 o3 o4, env' = [some (.lst ds), o1, o2, o3, o4]) ∧ loopF ⟨ds, []⟩ (turnF (gVar 3) la_in) sNext ds [some (.lst ds), some d, o2, o3, o4] S = .nx env' S := fun o2 o3 o4 => by
    obtain ⟨env', ⟨o2', o3', o4', q1⟩, q2⟩ := loop_true (it := ⟨ds, []⟩) (els := sNext) (body := turnF (gVar 3) la_in) (P := fun env => ∃ o2 o3 o4, env = [some (.lst ds), some d, o2, o3, o4]) (S := S) gOk_nils (ds := ds) (fun env e ⟨p2, p3, p4, pe⟩ he => by
      subst pe
      obtain ⟨r', hr', rm'⟩ := h.mem he
      obtain ⟨hrn', hrm'⟩ := h.ok r' hr'
      have v3 : ∀ {x y z l}, eVar 3 (x :: y :: z :: some e :: l) S = .ok e S := fun {x y z l} => varQ rfl rm'.q
      have a1 := lies_within_spec rm rm'
      rw [hlo, h.okR hr hr'] at a1
      simp only [if_true] at a1
      have a2 := law_inside_spec rm.q rm'.q (by omega) (by omega)
      simp [v1, v3, a1, a2, law_truth_spec]) ⟨o2, o3, o4, rfl⟩
    exact ⟨env', ⟨_, _, _, _, q1⟩, q2⟩
  have hfree := free_houses_spec rm
  rw [hlo] at hfree
  simp only [if_true] at hfree
  obtain ⟨env', ⟨a, b, c, e, rfl⟩, q⟩ := inner (some (.lst (I (freeOf r)))) o3 o4
  have hi : iterD S (.lst ds) = some ⟨ds, []⟩ := rfl
  simp only [la_in] at q
  by_cases h8 : r.count 2 ≤ 8
  · have h8' : ((r.count 2 : Nat) : Int) ≤ 8 := by omega
    have h8'' : ¬ (8 < ((r.count 2 : Nat) : Int)) := by omega
    have st := states_of_spec rm
    rw [hlo, if_pos rfl, if_neg h8''] at st
    have ls := law_states_spec rm.q hrm h8 (by omega)
    have l256 : (LS r).length ≤ 256 := by rw [LS_len]; exact Nat.pow_le_pow_right (n := 2) (by decide) h8
    have s2 : f_law_same 4 [.ktup (T (LS r)), .ktup (T (LS r))] S = .ok (.bl true) S := same2 rfl rfl (by omega) fun st hst => by rw [LS_wide hst]; omega
    refine ⟨[some (.lst ds), a, b, c, e], ?_, _, _, _, _, rfl⟩
    simp [-ap_eComp, v1, fr, hfree, tk, s1, hlen, h8', st, ls, s2, hi, q]
  · have h8' : ¬ ((r.count 2 : Nat) : Int) ≤ 8 := by omega
    refine ⟨[some (.lst ds), a, b, c, e], ?_, _, _, _, _, rfl⟩
    simp [-ap_eComp, v1, fr, hfree, tk, s1, hlen, h8', hi, q]
theorem lone_answers_spec {n : Nat} {ds : List D} {rs : List (List Int)} (h : Rms S n ds rs) : f_law_lone_answers [.lst ds] S = .ok (.bl true) S := by
  have key : outR (b_law_lone_answers (env0 5 [.lst ds]) S) = .ok (.bl true) S := by
    have e0 : env0 5 [.lst ds] = [some (.lst ds), none, none, none, none] := rfl
    rw [e0]
    obtain ⟨env', ⟨a, b, c, e, rfl⟩, q⟩ := loop_true (it := ⟨ds, []⟩) (els := sNext) (body := turnF (gVar 1) la_body) (P := fun env => ∃ o1 o2 o3 o4, env = [some (.lst ds), o1, o2, o3, o4]) (S := S) gOk_nils (ds := ds) (fun env d ⟨o1, o2, o3, o4, pe⟩ hd => by
      subst pe
      exact la_turn h hd) ⟨none, none, none, none, rfl⟩
    have hi : iterD S (.lst ds) = some ⟨ds, []⟩ := rfl
    simp only [la_body, la_in] at q
    simp [-ap_eComp, b_law_lone_answers, hi, q]
  exact defM_pure rfl key (resOk_v rfl)
end
end K02
/-! ## P02e -/
set_option Elab.async false
set_option linter.all false
set_option maxRecDepth 100000
set_option maxHeartbeats 2000000
namespace K02
open PySem PySem.Spec
open PyProof.Rows hiding St
open L2 EV0 EV
theorem asL_app {S g : Store} {d : D} {ds : List D} (h : asL S d = some ds) : asL (S ++ g) d = some ds := by
  cases d with
  | loc n =>
    simp only [asL] at h ⊢
    cases e : S[n]? with
    | none => rw [e] at h; cases h
    | some o =>
      have hn := (List.getElem?_eq_some_iff.mp e).1
      rw [List.getElem?_append_left hn, e]
      rw [e] at h
      exact h
  | _ => first | exact h | cases h
theorem Rm.app {S g : Store} {d : D} {xs : List Int} (h : Rm S d xs) : Rm (S ++ g) d xs := h.imp asL_app id
def Rws (S : Store) : List D → List (List Int) → Prop
  | [], [] => True
  | d :: ds, r :: rs => Rm S d r ∧ Rws S ds rs
  | _, _ => False
theorem Rws.app {S g : Store} : ∀ {ds : List D} {rs : List (List Int)}, Rws S ds rs → Rws (S ++ g) ds rs
  | [], [], _ => trivial
  | d :: ds, r :: rs, h => ⟨Rm.app h.1, Rws.app h.2⟩
  | [], _ :: _, h => h.elim
  | _ :: _, [], h => h.elim
theorem Rws.len {S : Store} : ∀ {ds : List D} {rs : List (List Int)}, Rws S ds rs → ds.length = rs.length
  | [], [], _ => rfl
  | d :: ds, r :: rs, h => by simp [Rws.len h.2]
  | [], _ :: _, h => h.elim
  | _ :: _, [], h => h.elim
abbrev K (rs : List (List Int)) : List D := rs.map fun r => .ktup (I r)
theorem lb_K {k : Nat} {rs : List (List Int)} : lbL k (K rs) = true := lbL_map fun _ _ => lb_ktI
section
variable {S : Store} {d : D} {xs : List Int}
noncomputable abbrev ss_body : SM := (sExpr (eMeth2 (some fmAppend) none (eVar 2) [(eApp f_as_room [(eApp fLen [(eVar 0)]), (eVar 3)])]))
theorem ss_loop {it : ItS} {o1 : Option D} (hi : it.g = []) : ∀ {es : List D} {rs acc : List (List Int)} {o3 : Option D}, Rws S es rs → acc.length + rs.length ≤ 1000 →
    ∃ o3' g, loopF it (turnF (gVar 3) ss_body) sNext es [some (.ktup (I xs)), o1, some (.loc S.length), o3] (S ++ [some (.lst (K acc))]) = match rs.find? (fun r => !okR xs.length r) with
      | some r => .er (badR r) [some (.ktup (I xs)), o1, some (.loc S.length), o3'] (S ++ g)
      | none => .nx [some (.ktup (I xs)), o1, some (.loc S.length), o3'] (S ++ [some (.lst (K (acc ++ rs)))])
  | [], [], acc, o3, _, _ => ⟨o3, [], by
    rw [loop_nil (fun p hp => by rw [hi] at hp; cases hp)]
    simp⟩
  | e :: es, r :: rs, acc, o3, h, hz => by
    have hg : gOk (S ++ [some (.lst (K acc))]) it := fun p hp => by rw [hi] at hp; cases hp
    have rm : Rm (S ++ [some (.lst (K acc))]) e r := Rm.app h.1
    have v3 : ∀ {x y z l}, eVar 3 (x :: y :: z :: some e :: l) (S ++ [some (.lst (K acc))]) = .ok e (S ++ [some (.lst (K acc))]) := fun {x y z l} => varQ rfl rm.q
    have hl : fLen [.ktup (I xs)] (S ++ [some (.lst (K acc))]) = .ok (.int xs.length) (S ++ [some (.lst (K acc))]) := Rm.k.len
    have ml : ∀ {env ms}, env[2]? = some (some (.loc S.length)) → eMeth2 (some fmAppend) none (eVar 2) ms env (S ++ [some (.lst (K acc))]) = (aList ms env (S ++ [some (.lst (K acc))])).bind fun as S2 => fmAppend (.loc S.length) as S2 := fun {env ms} he => meth_L (ds := K acc) (by simp [he]) (asL_loc get_last)
    rw [loop_cons hg]
    cases ok : okR xs.length r with
    | false =>
      refine ⟨some e, [some (.lst (K acc))], ?_⟩
      simp [ml, hl, v3, as_room_spec _ rm, ok]
    | true =>
      have ap : fmAppend (.loc S.length) [.ktup (I r)] (S ++ [some (.lst (K acc))]) = .ok .non (S ++ [some (.lst (K (acc ++ [r])))]) := by
        rw [append_loc get_last (Nat.lt_of_lt_of_le (show (K acc).length < 100000 by simp at hz ⊢; omega) (big_size (Nat.le_refl _))), set_last]
        simp [K]
      obtain ⟨o3', g, q⟩ := ss_loop hi (o1 := o1) (es := es) (rs := rs) (acc := acc ++ [r]) (o3 := some e) h.2 (by simp at hz ⊢; omega)
      refine ⟨o3', g, ?_⟩
      simp only [ss_body, List.append_assoc, List.singleton_append] at q
      have hf : (r :: rs).find? (fun r => !okR xs.length r) = rs.find? (fun r => !okR xs.length r) := by simp [ok]
      rw [hf]
      simp [ml, hl, v3, as_room_spec _ rm, ok, ap]
      simpa [ss_body, K] using q
  | [], _ :: _, _, _, h, _ => h.elim
  | _ :: _, [], _, _, h, _ => h.elim
theorem same_sized_spec {es : List D} {rs : List (List Int)} (h : Rm S d xs) (hs : Rws S es rs) (hz : rs.length ≤ 900) : f_same_sized [d, .tup es] S = if lone xs then (match rs.find? (fun r => !okR xs.length r) with
    | some r => .er (badR r) S
    | none => .ok (.lst (K (xs :: rs))) S) else .er (badR xs) S := by
  have v0 : ∀ {l}, eVar 0 (some d :: l) S = .ok d S := fun {l} => varQ rfl h.q
  have hi : ∀ {S}, iterD S (.tup es) = some ⟨es, []⟩ := fun {S} => rfl
  have go := as_lone_room_spec h
  cases e : lone xs with
  | false =>
    rw [e] at go
    simp only [Bool.false_eq_true, if_false] at go ⊢
    have key : outR (b_same_sized (env0 4 [d, .tup es]) S) = .er (badR xs) S := by
      have e0 : env0 4 [d, .tup es] = [some d, some (.tup es), none, none] := rfl
      rw [e0]
      simp [b_same_sized, v0, go]
    simp only [f_same_sized, defM, List.length_cons, List.length_nil, Nat.zero_add, if_true, key, frzR]
    have := cut_erA (S := S) (g := []) (x := badR xs) bad_lb
    simpa using this
  | true =>
    rw [e] at go
    simp only [if_true] at go ⊢
    obtain ⟨o3', g, q⟩ := ss_loop (S := S) (xs := xs) (it := ⟨es, []⟩) (o1 := some (.tup es)) rfl (acc := [xs]) (o3 := none) hs (by simp; omega)
    simp only [ss_body] at q
    have e0 : env0 4 [d, .tup es] = [some d, some (.tup es), none, none] := rfl
    cases ef : rs.find? (fun r => !okR xs.length r) with
    | some r =>
      rw [ef] at q
      have key : outR (b_same_sized (env0 4 [d, .tup es]) S) = .er (badR r) (S ++ g) := by
        rw [e0]
        simp only [K, List.map_cons, List.map_nil] at q
        simp [b_same_sized, v0, go, hi, q]
      simp only [f_same_sized, defM, List.length_cons, List.length_nil, Nat.zero_add, if_true, key, frzR]
      exact cut_erA bad_lb
    | none =>
      rw [ef] at q
      have key : outR (b_same_sized (env0 4 [d, .tup es]) S) = .ok (.loc S.length) (S ++ [some (.lst (K (xs :: rs)))]) := by
        rw [e0]
        simp only [K, List.map_cons, List.map_nil] at q
        simp [b_same_sized, v0, go, hi, q]
      exact defM_frz rfl key (Nat.le_refl _) get_last lb_K
end
end K02
/-! ## P02f -/
set_option Elab.async false
set_option linter.all false
set_option maxRecDepth 100000
set_option maxHeartbeats 2000000
namespace K02
open PySem PySem.Spec
open PyProof.Rows hiding St
open L2 EV0 EV
/-- two rows, mark by mark -/
def crow (f : Int → Int → Option Int) : List Int → List Int → Option (List Int)
  | a :: as, b :: bs => match f a b with
    | some v => (crow f as bs).map (v :: ·)
    | none => none
  | _, _ => some []
abbrev tg : GF := gTupD 2 (gsCons (gVar 5) (gsCons (gVar 6) gsNil))
/-- what a turn does to the mark at its place -/
def TurnOk (S : Store) (f : Int → Int → Option Int) (B : SM) : Prop := ∀ (done rest : List Int) (a m : Int) (e0 e1 e2 e4 o5 o6 : Option D),
  turnF tg B (.tup [.int (done.length : Nat), .int m]) [e0, e1, e2, some (.loc S.length), e4, o5, o6] (S ++ [some (.lst (I (done ++ a :: rest)))]) = match f a m with
    | some v => .nx [e0, e1, e2, some (.loc S.length), e4, some (.int (done.length : Nat)), some (.int m)] (S ++ [some (.lst (I (done ++ v :: rest)))])
    | none => .rt .non (S ++ [some (.lst (I (done ++ a :: rest)))])
section
variable {S : Store} {f : Int → Int → Option Int} {B : SM}
theorem cm_inner (hB : TurnOk S f B) {it : ItS} (hi : it.g = []) {e0 e1 e2 e4 : Option D} : ∀ {room rest done : List Int} {o5 o6 : Option D}, rest.length = room.length →
    ∃ o5' o6' g, loopF it (turnF tg B) sNext ((room.zipIdx done.length).map fun p => D.tup [.int (p.2 : Nat), .int p.1]) [e0, e1, e2, some (.loc S.length), e4, o5, o6] (S ++ [some (.lst (I (done ++ rest)))]) = match crow f rest room with
      | some m => .nx [e0, e1, e2, some (.loc S.length), e4, o5', o6'] (S ++ [some (.lst (I (done ++ m)))])
      | none => .rt .non (S ++ g)
  | [], [], done, o5, o6, _ => ⟨o5, o6, [], by
    simp only [List.zipIdx_nil, List.map_nil]
    rw [loop_nil (fun p hp => by rw [hi] at hp; cases hp)]
    rfl⟩
  | m :: room, a :: rest, done, o5, o6, h => by
    have hg : gOk (S ++ [some (.lst (I (done ++ a :: rest)))]) it := fun p hp => by rw [hi] at hp; cases hp
    rw [List.zipIdx_cons, List.map_cons, loop_cons hg, hB]
    cases e : f a m with
    | none => exact ⟨o5, o6, [some (.lst (I (done ++ a :: rest)))], by simp only [crow, e]⟩
    | some v =>
      obtain ⟨o5', o6', g, q⟩ := cm_inner hB hi (e0 := e0) (e1 := e1) (e2 := e2) (e4 := e4) (room := room) (rest := rest) (done := done ++ [v]) (o5 := some (.int (done.length : Nat))) (o6 := some (.int m)) (by simpa using h)
      rw [List.length_append, List.length_singleton, List.append_assoc, List.singleton_append] at q
      refine ⟨o5', o6', g, ?_⟩
      simp only [crow, e]
      rw [q]
      cases crow f rest room with
      | none => rfl
      | some z => simp
  | [], _ :: _, _, _, _, h => by simp at h
  | _ :: _, [], _, _, _, h => by simp at h
theorem crow_len : ∀ {as bs ms : List Int}, as.length = bs.length → crow f as bs = some ms → ms.length = as.length
  | [], [], ms, _, h => by simp [crow] at h; subst h; rfl
  | a :: as, b :: bs, ms, hl, h => by
    simp only [crow] at h
    split at h
    · obtain ⟨z, h1, rfl⟩ := Option.map_eq_some_iff.mp h
      simp [crow_len (by simpa using hl) h1]
    · cases h
  | [], _ :: _, _, h, _ => by simp at h
  | _ :: _, [], _, h, _ => by simp at h
noncomputable abbrev out_body (B : SM) : SM := sFor (iEnumD [(eVar 4)]) tg B sNext
theorem cm_outer (hB : TurnOk S f B) {it : ItS} (hi : it.g = []) {e0 e1 e2 : Option D} {n : Nat} : ∀ {rs : List (List Int)} {ms : List Int} {o4 o5 o6 : Option D}, ms.length = n → (∀ r ∈ rs, r.length = n) →
    ∃ o4' o5' o6' g, loopF it (turnF (gVar 4) (out_body B)) sNext (K rs) [e0, e1, e2, some (.loc S.length), o4, o5, o6] (S ++ [some (.lst (I ms))]) = match rs.foldlM (crow f) ms with
      | some m => .nx [e0, e1, e2, some (.loc S.length), o4', o5', o6'] (S ++ [some (.lst (I m))])
      | none => .rt .non (S ++ g)
  | [], ms, o4, o5, o6, _, _ => ⟨o4, o5, o6, [], by
    simp only [List.map_nil]
    rw [loop_nil (fun p hp => by rw [hi] at hp; cases hp)]
    rfl⟩
  | r :: rs, ms, o4, o5, o6, hm, hr => by
    have hg : gOk (S ++ [some (.lst (I ms))]) it := fun p hp => by rw [hi] at hp; cases hp
    have hen : ∀ {S}, iEnumD [eVar 4] [e0, e1, e2, some (.loc S.length), some (.ktup (I r)), o5, o6] S = .ok ⟨(r.zipIdx 0).map fun p => D.tup [.int (p.2 : Nat), .int p.1], []⟩ S := fun {S} => by
      simp [iEnumD, seqA, seqL, seqT, enum_map, List.zipIdx_map]
    have hen : ∀ {S : Store} {l : Nat}, iEnumD [eVar 4] [e0, e1, e2, some (.loc l), some (.ktup (I r)), o5, o6] S = .ok ⟨(r.zipIdx 0).map fun p => D.tup [.int (p.2 : Nat), .int p.1], []⟩ S := fun {S l} => by
      simp [iEnumD, seqA, seqL, seqT, enum_map, List.zipIdx_map]
    obtain ⟨o5', o6', g, q⟩ := cm_inner hB (it := ⟨(r.zipIdx 0).map fun p => D.tup [.int (p.2 : Nat), .int p.1], []⟩) rfl (e0 := e0) (e1 := e1) (e2 := e2) (e4 := some (.ktup (I r))) (room := r) (rest := ms) (done := []) (o5 := o5) (o6 := o6) (by rw [hm, hr r (by simp)])
    simp only [List.length_nil, List.nil_append] at q
    show ∃ o4' o5' o6' g, loopF it _ sNext (D.ktup (I r) :: K rs) _ _ = _
    rw [loop_cons hg]
    have t : turnF (gVar 4) (out_body B) (.ktup (I r)) [e0, e1, e2, some (.loc S.length), o4, o5, o6] (S ++ [some (.lst (I ms))]) = match crow f ms r with
      | some m => .nx [e0, e1, e2, some (.loc S.length), some (.ktup (I r)), o5', o6'] (S ++ [some (.lst (I m))])
      | none => .rt .non (S ++ g) := by
      rw [← q]
      simp [hen]
    rw [t, List.foldlM_cons]
    cases e : crow f ms r with
    | none => exact ⟨o4, o5, o6, g, rfl⟩
    | some m =>
      obtain ⟨a, b, c, g', q'⟩ := cm_outer hB hi (e0 := e0) (e1 := e1) (e2 := e2) (rs := rs) (ms := m) (o4 := some (.ktup (I r))) (o5 := o5') (o6 := o6') (by rw [crow_len (by rw [hm, hr r (by simp)]) e, hm]) (fun r hr' => hr r (by simp [hr']))
      exact ⟨a, b, c, g', q'⟩
end
def mt1 (a b : Int) : Option Int := if a = 2 then some b else if b = 2 ∨ b = a then some a else none
def jn1 (a b : Int) : Option Int := some (if b = a then a else 2)
noncomputable abbrev meetB : SM := (sIf (bOf (eBin fEq (eBin fIx (eVar 3) (eVar 5)) (eC (.int 2)))) (sAsg (eVar 6) (gSubD (eVar 3) (eVar 5))) (sIf (bOf (eBin fNotIn (eVar 6) (eTup [(eC (.int 2)), (eBin fIx (eVar 3) (eVar 5))]))) (sRet (eC .non)) sNext))
noncomputable abbrev joinB : SM := (sIf (bOf (eBin fNe (eVar 6) (eBin fIx (eVar 3) (eVar 5)))) (sAsg (eC (.int 2)) (gSubD (eVar 3) (eVar 5))) sNext)
section
variable {S : Store}
theorem at_mid {done rest : List Int} {a : Int} : fIx (.loc S.length) (.int (done.length : Nat)) (S ++ [some (.lst (I (done ++ a :: rest)))]) = .ok (.int a) (S ++ [some (.lst (I (done ++ a :: rest)))]) :=
  ix_Q (ds := I (done ++ a :: rest)) (asL_loc get_last) (by simp)
theorem set_mid {done rest : List Int} {a v : Int} : fSetI (.loc S.length) (.int (done.length : Nat)) (.int v) (S ++ [some (.lst (I (done ++ a :: rest)))]) = some (S ++ [some (.lst (I (done ++ v :: rest)))]) := by
  rw [setI_loc get_last (by simp), set_last]
  simp
theorem meet_turn : TurnOk S mt1 meetB := fun done rest a m e0 e1 e2 e4 o5 o6 => by
  have am := at_mid (S := S) (done := done) (rest := rest) (a := a)
  have sm := set_mid (S := S) (done := done) (rest := rest) (a := a) (v := m)
  simp at am sm
  by_cases ha : a = 2
  · subst ha
    simp [asT, am, sm, mt1]
  · have hn : fNotIn (.int m) (.tup [.int 2, .int a]) (S ++ [some (.lst (I (done ++ a :: rest)))]) = .ok (.bl (!((2 : Int) == m || a == m))) (S ++ [some (.lst (I (done ++ a :: rest)))]) := by
      rw [notin_flat (ds := [.int 2, .int a]) rfl rfl rfl rfl]
      simp [eqFl]
    by_cases hm : m = 2 ∨ m = a
    · have : ((2 : Int) == m || a == m) = true := by
        rcases hm with h | h <;> simp [h]
      simp only [this, Bool.not_true] at hn
      simp only [I, List.map_append, List.map_cons] at hn
      simp [asT, ha, mt1, hm, am, hn]
    · have : ((2 : Int) == m || a == m) = false := by
        simp; omega
      simp only [this, Bool.not_false] at hn
      simp only [I, List.map_append, List.map_cons] at hn
      simp [asT, ha, mt1, hm, am, hn]
theorem join_turn : TurnOk S jn1 joinB := fun done rest a m e0 e1 e2 e4 o5 o6 => by
  have am := at_mid (S := S) (done := done) (rest := rest) (a := a)
  have sm := set_mid (S := S) (done := done) (rest := rest) (a := a) (v := 2)
  simp at am sm
  by_cases h : m = a
  · subst h
    simp [asT, am, jn1]
  · simp [asT, am, sm, jn1, h]
theorem defV_pure {np n : Nat} {m : SM} {ds : List D} {S : Store} {r : EV.R D} {g : Store} (hn : np ≤ ds.length) (hz : (ds.drop np).length ≤ sizeLine) (h : outR (m (env0 n (ds.take np ++ [.tup (ds.drop np)])) S) = match r with
      | .ok d _ => .ok d (S ++ g)
      | .er x _ => .er x (S ++ g)
      | .no => .no) (hr : ResOk S r) : defV false np n m ds S = r := by
  simp only [defV, if_pos (And.intro hn hz), Bool.false_eq_true, if_false, h]
  cases r with
  | ok d S' => obtain ⟨rfl, hl⟩ := hr; exact cut_app hl
  | er x S' => obtain ⟨rfl, hl⟩ := hr; exact cut_erA hl
  | no => rfl
/-- meet, join of rows: what both begin with -/
def cmRes (f : Int → Int → Option Int) (xs : List Int) (rs : List (List Int)) (S : Store) : EV.R D := if lone xs then (match rs.find? (fun r => !okR xs.length r) with
    | some r => .er (badR r) S
    | none => match (xs :: rs).foldlM (crow f) xs with
      | some m => .ok (.ktup (I m)) S
      | none => .ok .non S) else .er (badR xs) S
theorem cm_ok {S : Store} {f : Int → Int → Option Int} {xs : List Int} {rs : List (List Int)} : ResOk S (cmRes f xs rs S) := by
  unfold cmRes
  split
  · split
    · exact resOk_x bad_lb
    · split
      · exact resOk_v lb_ktI
      · exact resOk_v rfl
  · exact resOk_x bad_lb
theorem cm_spec {d : D} {es : List D} {xs : List Int} {rs : List (List Int)} {f : Int → Int → Option Int} {B : SM} (hB : TurnOk S f B) (h : Rm S d xs) (hs : Rws S es rs) (hz : rs.length ≤ 900) :
    defV false 1 7 (sSeq (sAsg (eApp f_same_sized [(eVar 0), (eVar 1)]) (gVar 2)) (sSeq (sAsg (eApp (fList true) [(eBin fIx (eVar 2) (eC (.int 0)))]) (gVar 3)) (sSeq (sFor (iPlain (eVar 2)) (gVar 4) (out_body B) sNext) (sRet (eApp fTupleK [(eVar 3)]))))) (d :: es) S = cmRes f xs rs S := by
  have v0 : ∀ {l}, eVar 0 (some d :: l) S = .ok d S := fun {l} => varQ rfl h.q
  have hlen := hs.len
  have ss := same_sized_spec h hs hz
  have e0 : env0 7 ((d :: es).take 1 ++ [.tup ((d :: es).drop 1)]) = [some d, some (.tup es), none, none, none, none, none] := rfl
  by_cases hl : lone xs
  · rw [if_pos hl] at ss
    cases ef : rs.find? (fun r => !okR xs.length r) with
    | some r =>
      rw [ef] at ss
      refine defV_pure (g := []) (by simp) (big_size (by simp; omega)) ?_ cm_ok
      rw [e0]
      simp [v0, ss, cmRes, hl, ef]
    | none =>
      rw [ef] at ss
      have hr : ∀ r ∈ xs :: rs, r.length = xs.length := fun r hr => by
        rcases List.mem_cons.mp hr with rfl | hr
        · rfl
        · have := List.find?_eq_none.mp ef r hr
          simp [okR] at this
          exact this.1
      obtain ⟨o4, o5, o6, g, q⟩ := cm_outer hB (it := ⟨K (xs :: rs), []⟩) rfl (e0 := some d) (e1 := some (.tup es)) (e2 := some (.lst (K (xs :: rs)))) (rs := xs :: rs) (ms := xs) (o4 := none) (o5 := none) (o6 := none) rfl hr
      have hi : ∀ {S}, iterD S (.lst (K (xs :: rs))) = some ⟨K (xs :: rs), []⟩ := fun {S} => rfl
      have i0 : fIx (.lst (K (xs :: rs))) (.int 0) S = .ok (.ktup (I xs)) S := ix_Q (i := 0) (ds := K (xs :: rs)) rfl rfl
      have hL : fList true [.ktup (I xs)] S = .ok (.loc S.length) (S ++ [some (.lst (I xs))]) := list_Q rfl
      simp only at ss
      generalize K (xs :: rs) = Z at ss q hi i0
      cases em : (xs :: rs).foldlM (crow f) xs with
      | none =>
        rw [em] at q
        refine defV_pure (g := g) (by simp) (big_size (by simp; omega)) ?_ cm_ok
        rw [e0]
        simp only [cmRes, if_pos hl, ef, em]
        simp only [ap_sSeq, ap_sAsg, ap_eApp, ap_cons, ap_nil, v0, bind_ok, var_tup (show ([some d, some (.tup es), none, none, none, none, none] : EV.Env)[1]? = some (some (.tup es)) from rfl), ss, R.then_ok, ap_gVar]
        simp [hi, i0, hL, -ap_turnF, q]
      | some m =>
        rw [em] at q
        refine defV_pure (g := [some (.lst (I m))]) (by simp) (big_size (by simp; omega)) ?_ cm_ok
        rw [e0]
        simp only [cmRes, if_pos hl, ef, em]
        simp only [ap_sSeq, ap_sAsg, ap_eApp, ap_cons, ap_nil, v0, bind_ok, var_tup (show ([some d, some (.tup es), none, none, none, none, none] : EV.Env)[1]? = some (some (.tup es)) from rfl), ss, R.then_ok, ap_gVar]
        simp [hi, i0, hL, -ap_turnF, q, tupK_L (d := .loc S.length) (asL_loc (S := S ++ [some (.lst (I m))]) get_last)]
  · rw [if_neg hl] at ss
    refine defV_pure (g := []) (by simp) (big_size (by simp; omega)) ?_ cm_ok
    rw [e0]
    simp [v0, ss, cmRes, hl]
theorem meet_spec {d : D} {es : List D} {xs : List Int} {rs : List (List Int)} (h : Rm S d xs) (hs : Rws S es rs) (hz : rs.length ≤ 900) : f_meet (d :: es) S = cmRes mt1 xs rs S := cm_spec meet_turn h hs hz
theorem join_spec {d : D} {es : List D} {xs : List Int} {rs : List (List Int)} (h : Rm S d xs) (hs : Rws S es rs) (hz : rs.length ≤ 900) : f_join (d :: es) S = cmRes jn1 xs rs S := cm_spec join_turn h hs hz
end
end K02
/-! ## P02g -/
set_option Elab.async false
set_option linter.all false
set_option maxRecDepth 100000
set_option maxHeartbeats 2000000
namespace K02
open PySem PySem.Spec
open PyProof.Rows hiding St
open L2 EV0 EV
theorem Rws.zip {S : Store} : ∀ {ds : List D} {rs : List (List Int)}, Rws S ds rs → ds = (ds.zip rs).map (·.1) ∧ rs = (ds.zip rs).map (·.2) ∧ ∀ p ∈ ds.zip rs, Rm S p.1 p.2
  | [], [], _ => ⟨rfl, rfl, by simp⟩
  | d :: ds, r :: rs, h => by
    obtain ⟨h1, h2, h3⟩ := Rws.zip h.2
    refine ⟨by simp [← h1], by simp [← h2], fun p hp => ?_⟩
    rw [List.zip_cons_cons, List.mem_cons] at hp
    rcases hp with rfl | hp
    · exact h.1
    · exact h3 p hp
  | [], _ :: _, h => h.elim
  | _ :: _, [], h => h.elim
def colOf (rs : List (List Int)) (k : Nat) : List Int := rs.map fun r => r.getD k 0
def lawCol (col : List Int) : Option Int := if (col.filter (· != 2)).contains 0 && (col.filter (· != 2)).contains 1 then none else some ((col.filter (· != 2)).headD 2)
def lawF (rs : List (List Int)) (k : Nat) : Option Int := lawCol (colOf rs k)
def joinCol (x0 : Int) (col : List Int) : Option Int := some (if (col.filter (· != x0)).isEmpty then x0 else 2)
/-- a turn of a law's loop over the places: a mark is put behind -/
def ColOk (S : Store) (n : Nat) (F : Nat → Option Int) (B : SM) (e0 : Option D) : Prop := ∀ k, k < n → ∀ (ms : List Int) (o2 o3 : Option D), ms.length ≤ 1000 → ∃ o3',
  turnF (gVar 2) B (.int (k : Nat)) [e0, some (.loc S.length), o2, o3, none] (S ++ [some (.lst (I ms))]) = match F k with
    | some v => .nx [e0, some (.loc S.length), some (.int (k : Nat)), o3', none] (S ++ [some (.lst (I (ms ++ [v])))])
    | none => .rt .non (S ++ [some (.lst (I ms))])
section
variable {S : Store} {n : Nat} {F : Nat → Option Int} {B : SM} {e0 : Option D}
theorem col_loop (hB : ColOk S n F B e0) (hn : n ≤ 100) {it : ItS} (hi : it.g = []) : ∀ (m k : Nat), k + m = n → ∀ {ms : List Int} {o2 o3 : Option D}, ms.length = k → ∃ o2' o3' g,
    loopF it (turnF (gVar 2) B) sNext ((List.range' k m).map fun (k : Nat) => D.int k) [e0, some (.loc S.length), o2, o3, none] (S ++ [some (.lst (I ms))]) = match (List.range' k m).mapM F with
      | some l => .nx [e0, some (.loc S.length), o2', o3', none] (S ++ [some (.lst (I (ms ++ l)))])
      | none => .rt .non (S ++ g) := by
  intro m
  induction m with
  | zero =>
    intro k hk ms o2 o3 hm
    refine ⟨o2, o3, [], ?_⟩
    simp only [List.range'_zero, List.map_nil]
    rw [loop_nil (fun p hp => by rw [hi] at hp; cases hp)]
    simp
  | succ m ih =>
    intro k hk ms o2 o3 hm
    obtain ⟨o3', t⟩ := hB k (by omega) ms o2 o3 (by omega)
    have hg : gOk (S ++ [some (.lst (I ms))]) it := fun p hp => by rw [hi] at hp; cases hp
    rw [List.range'_succ, List.map_cons, loop_cons hg, t, List.mapM_cons]
    cases e : F k with
    | none => exact ⟨o2, o3, [some (.lst (I ms))], rfl⟩
    | some v =>
      obtain ⟨a, b, g, q⟩ := ih (k + 1) (by omega) (ms := ms ++ [v]) (o2 := some (.int (k : Nat))) (o3 := o3') (by simp [hm])
      refine ⟨a, b, g, ?_⟩
      show loopF it _ sNext _ _ _ = _
      rw [q]
      cases (List.range' (k + 1) m).mapM F with
      | none => rfl
      | some l => simp
theorem in_ints {xs : List Int} {x : Int} : fIn (.int x) (.lst (I xs)) S = .ok (.bl (xs.contains x)) S := by
  rw [in_flat (ds := I xs) rfl rfl rfl (by simp [flatD])]
  congr 2
  rw [List.any_map]
  induction xs with
  | nil => rfl
  | cons y ys ih =>
    simp only [List.any_cons, List.contains_cons, Function.comp] at ih ⊢
    rw [ih]
    congr 1
    simp only [eqFl]
    rw [Bool.eq_iff_iff]
    simp
    exact eq_comm
noncomputable abbrev lmB : SM := (sSeq (sAsg (eComp false (iPlain (eVar 0)) (gVar 4) (bOf (eBin fNe (eBin fIx (eVar 4) (eVar 2)) (eC (.int 2)))) (eBin fIx (eVar 4) (eVar 2)) [4]) (gVar 3)) (sSeq (sIf (bAnd (bOf (eBin fIn (eC (.int 0)) (eVar 3))) (bOf (eBin fIn (eC (.int 1)) (eVar 3)))) (sRet (eC .non)) sNext) (sExpr (eMeth2 (some fmAppend) none (eVar 1) [(eIf (bTru (eVar 3)) (eBin fIx (eVar 3) (eC (.int 0))) (eC (.int 2)))]))))
noncomputable abbrev ljB : SM := (sSeq (sAsg (eComp false (iPlain (eVar 0)) (gVar 4) (bOf (eBin fNe (eBin fIx (eVar 4) (eVar 2)) (eBin fIx (eBin fIx (eVar 0) (eC (.int 0))) (eVar 2)))) (eVar 4) [4]) (gVar 3)) (sExpr (eMeth2 (some fmAppend) none (eVar 1) [(eIf (bTru (eVar 3)) (eC (.int 2)) (eBin fIx (eBin fIx (eVar 0) (eC (.int 0))) (eVar 2)))])))
theorem put_last {ms : List Int} {v : Int} (h : ms.length ≤ 1000) : fmAppend (.loc S.length) [.int v] (S ++ [some (.lst (I ms))]) = .ok .non (S ++ [some (.lst (I (ms ++ [v])))]) := by
  rw [append_loc get_last (Nat.lt_of_lt_of_le (show (I ms).length < 100000 by simp; omega) (big_size (Nat.le_refl _))), set_last]
  simp
theorem lm_turn {ds : List D} {rs : List (List Int)} (h : Rws S ds rs) (hn : ∀ r ∈ rs, r.length = n) : ColOk S n (lawF rs) lmB (some (.lst ds)) := by
  intro k hk ms o2 o3 hm
  obtain ⟨z1, z2, z3⟩ := (Rws.app h (g := [some (.lst (I ms))])).zip
  have hz : ∀ p ∈ ds.zip rs, p.2.length = n := fun p hp => hn _ (by rw [z2]; exact List.mem_map_of_mem hp)
  have hi : ∀ {S}, iterD S (.lst ds) = some ⟨ds, []⟩ := fun {S} => rfl
  have c := comp_map (it := ⟨ds, []⟩) (S := S ++ [some (.lst (I ms))]) (F := itemF (gVar 4) (bOf (eBin fNe (eBin fIx (eVar 4) (eVar 2)) (eC (.int 2)))) (eBin fIx (eVar 4) (eVar 2)) [some (.lst ds), some (.loc S.length), some (.int (k : Nat)), o3, none]) (fun p : D × List Int => p.1) (fun p => if p.2.getD k 0 = 2 then none else some (D.int (p.2.getD k 0))) (l := ds.zip rs) gOk_nils (fun p hp => by
      have rm := z3 p hp
      have hl := hz p hp
      have v4 : ∀ {x y z u l}, eVar 4 (x :: y :: z :: u :: some p.1 :: l) (S ++ [some (.lst (I ms))]) = .ok p.1 (S ++ [some (.lst (I ms))]) := fun {x y z u l} => varQ rfl rm.q
      have ix := ixI rm.q (i := k) (by omega)
      have e : p.2.getD k 0 = p.2[k] := by simp [show k < p.2.length by omega]
      rw [e]
      by_cases z : p.2[k] = 2
      · simp [v4, ix, z]
      · simp [v4, ix, z]) (acc := [])
  rw [← z1] at c
  have e : ((ds.zip rs).filterMap fun p => if p.2.getD k 0 = 2 then none else some (D.int (p.2.getD k 0))) = I ((colOf rs k).filter (· != 2)) := by
    have e1 : colOf rs k = (ds.zip rs).map fun p => p.2.getD k 0 := by
      unfold colOf
      conv => lhs; rw [z2]
      rw [List.map_map]
      rfl
    rw [e1]
    generalize ds.zip rs = zs
    induction zs with
    | nil => rfl
    | cons p zs ih =>
      rw [List.filterMap_cons, List.map_cons, List.filter_cons, ih]
      by_cases q : p.2.getD k 0 = 2
      · have q' : p.2[k]?.getD 0 = 2 := by simpa using q
        simp [q']
      · have q' : ¬ p.2[k]?.getD 0 = 2 := by simpa using q
        simp [q']
  rw [e] at c
  simp only [List.nil_append] at c
  refine ⟨some (.lst (I ((colOf rs k).filter (· != 2)))), ?_⟩
  have ml : ∀ {env mm} {S' : Store}, S' = S ++ [some (.lst (I ms))] → env[1]? = some (some (.loc S.length)) → eMeth2 (some fmAppend) none (eVar 1) mm env S' = (aList mm env S').bind fun as S2 => fmAppend (.loc S.length) as S2 := fun {env mm S'} hs he => by
    subst hs
    exact meth_L (ds := I ms) (by simp [he]) (asL_loc get_last)
  unfold lawF lawCol
  generalize (colOf rs k).filter (· != 2) = fx at *
  have i0 := in_ints (S := S ++ [some (.lst (I ms))]) (xs := fx) (x := 0)
  have i1 := in_ints (S := S ++ [some (.lst (I ms))]) (xs := fx) (x := 1)
  have tr : truD (S ++ [some (.lst (I ms))]) (.lst (I fx)) = some (!fx.isEmpty) := by rw [tru_Q (ds := I fx) rfl]; simp
  have pt := fun {v} => put_last (S := S) (v := v) hm
  simp only [I] at i0 i1 c tr pt ⊢
  cases h0 : fx.contains 0 && fx.contains 1 with
  | true =>
    simp only [Bool.and_eq_true] at h0
    rw [h0.1] at i0
    rw [h0.2] at i1
    simp [hi, wipeE, c, i0, i1]
  | false =>
    have h01 : fx.contains 0 = false ∨ (fx.contains 0 = true ∧ fx.contains 1 = false) := by
      cases q : fx.contains 0 with
      | false => exact .inl rfl
      | true => rw [q] at h0; exact .inr ⟨rfl, by simpa using h0⟩
    cases fx with
    | nil =>
      simp only [List.map_nil] at i0 i1 c tr pt
      simp [hi, wipeE, c, i0, i1, ml, tr, pt]
    | cons y fx =>
      have ix0 : fIx (.lst (I (y :: fx))) (.int 0) (S ++ [some (.lst (I ms))]) = .ok (.int y) (S ++ [some (.lst (I ms))]) := ix_Q (i := 0) (ds := I (y :: fx)) rfl rfl
      rcases h01 with q | ⟨q1, q2⟩
      · rw [q] at i0
        simp only [I, List.map_cons] at i0 i1 c tr pt ix0
        simp [hi, wipeE, c, i0, i1, ml, tr, pt, ix0]
      · rw [q1] at i0
        rw [q2] at i1
        simp only [I, List.map_cons] at i0 i1 c tr pt ix0
        simp [hi, wipeE, c, i0, i1, ml, tr, pt, ix0]
end
end K02
/-! ## P02h -/
set_option Elab.async false
set_option linter.all false
set_option maxRecDepth 100000
set_option maxHeartbeats 2000000
namespace K02
open PySem PySem.Spec
open PyProof.Rows hiding St
open L2 EV0 EV
def joinF (x0 : List Int) (rs : List (List Int)) (k : Nat) : Option Int := joinCol (x0.getD k 0) (colOf rs k)
section
variable {S : Store} {n : Nat}
theorem lj_turn {d0 : D} {x0 : List Int} {ds : List D} {rs : List (List Int)} (h : Rws S (d0 :: ds) (x0 :: rs)) (hn : ∀ r ∈ x0 :: rs, r.length = n) : ColOk S n (joinF x0 (x0 :: rs)) ljB (some (.lst (d0 :: ds))) := by
  intro k hk ms o2 o3 hm
  have hA := Rws.app h (g := [some (.lst (I ms))])
  obtain ⟨z1, z2, z3⟩ := hA.zip
  have hz : ∀ p ∈ (d0 :: ds).zip (x0 :: rs), p.2.length = n := fun p hp => hn _ (by rw [z2]; exact List.mem_map_of_mem hp)
  have hi : ∀ {S}, iterD S (.lst (d0 :: ds)) = some ⟨d0 :: ds, []⟩ := fun {S} => rfl
  have r0 : fIx (.lst (d0 :: ds)) (.int 0) (S ++ [some (.lst (I ms))]) = .ok d0 (S ++ [some (.lst (I ms))]) := ix_Q (i := 0) (ds := d0 :: ds) rfl rfl
  have hx0 : x0.length = n := hn _ (by simp)
  have r1 : fIx d0 (.int (k : Nat)) (S ++ [some (.lst (I ms))]) = .ok (.int (x0.getD k 0)) (S ++ [some (.lst (I ms))]) := by
    rw [ixI hA.1.q (by omega)]
    simp [show k < x0.length by omega]
  generalize hgd : x0.getD k 0 = y0 at *
  have c := comp_map (it := ⟨d0 :: ds, []⟩) (S := S ++ [some (.lst (I ms))]) (F := itemF (gVar 4) (bOf (eBin fNe (eBin fIx (eVar 4) (eVar 2)) (eBin fIx (eBin fIx (eVar 0) (eC (.int 0))) (eVar 2)))) (eVar 4) [some (.lst (d0 :: ds)), some (.loc S.length), some (.int (k : Nat)), o3, none]) (fun p : D × List Int => p.1) (fun p => if p.2.getD k 0 = y0 then none else some p.1) (l := (d0 :: ds).zip (x0 :: rs)) gOk_nils (fun p hp => by
      have rm := z3 p hp
      have hl := hz p hp
      have v4 : ∀ {x y z u l}, eVar 4 (x :: y :: z :: u :: some p.1 :: l) (S ++ [some (.lst (I ms))]) = .ok p.1 (S ++ [some (.lst (I ms))]) := fun {x y z u l} => varQ rfl rm.q
      have ix := ixI rm.q (i := k) (by omega)
      have e : p.2.getD k 0 = p.2[k] := by simp [show k < p.2.length by omega]
      rw [e]
      by_cases z : p.2[k] = y0
      · simp [v4, ix, r0, r1, z]
      · simp [v4, ix, r0, r1, z]) (acc := [])
  rw [← z1] at c
  have e : (((d0 :: ds).zip (x0 :: rs)).filterMap fun p => if p.2.getD k 0 = y0 then none else some p.1).isEmpty = ((colOf (x0 :: rs) k).filter (· != y0)).isEmpty := by
    have e1 : colOf (x0 :: rs) k = ((d0 :: ds).zip (x0 :: rs)).map fun p => p.2.getD k 0 := by
      unfold colOf
      conv => lhs; rw [z2]
      rw [List.map_map]
      rfl
    rw [e1]
    generalize (d0 :: ds).zip (x0 :: rs) = zs
    rw [Bool.eq_iff_iff]
    simp only [List.isEmpty_iff, List.filterMap_eq_nil_iff, List.filter_eq_nil_iff, List.mem_map]
    constructor
    · rintro H _ ⟨p, hp, rfl⟩
      have := H p hp
      split at this
      · rename_i q; simp only [q]; simp
      · cases this
    · intro H p hp
      have := H _ ⟨p, hp, rfl⟩
      have q : p.2.getD k 0 = y0 := by simpa using this
      rw [if_pos q]
  simp only [List.nil_append] at c
  generalize (((d0 :: ds).zip (x0 :: rs)).filterMap fun p => if p.2.getD k 0 = y0 then none else some p.1) = zs at *
  refine ⟨some (.lst zs), ?_⟩
  have ml : ∀ {env mm} {S' : Store}, S' = S ++ [some (.lst (I ms))] → env[1]? = some (some (.loc S.length)) → eMeth2 (some fmAppend) none (eVar 1) mm env S' = (aList mm env S').bind fun as S2 => fmAppend (.loc S.length) as S2 := fun {env mm S'} hs he => by
    subst hs
    exact meth_L (ds := I ms) (by simp [he]) (asL_loc get_last)
  have tr : truD (S ++ [some (.lst (I ms))]) (.lst zs) = some (!zs.isEmpty) := tru_Q (ds := zs) rfl
  have pt := fun {v} => put_last (S := S) (v := v) hm
  unfold joinF joinCol
  rw [hgd, ← e]
  simp only [I] at c tr pt r0 r1 ⊢
  cases q : zs.isEmpty with
  | true =>
    rw [q] at tr
    simp [hi, wipeE, c, ml, tr, pt, r0, r1]
  | false =>
    rw [q] at tr
    simp [hi, wipeE, c, ml, tr, pt, r0, r1]
/-- the marks found place by place -/
def colRes (F : Nat → Option Int) (n : Nat) (S : Store) : EV.R D := match (List.range n).mapM F with
  | some m => .ok (.ktup (I m)) S
  | none => .ok .non S
theorem col_res {F : Nat → Option Int} : ResOk S (colRes F n S) := by
  unfold colRes
  split
  · exact resOk_v lb_ktI
  · exact resOk_v rfl
theorem col_spec {F : Nat → Option Int} {B : SM} {ds : List D} {d0 : D} {x0 : List Int} (hB : ColOk S n F B (some (.lst (d0 :: ds)))) (h0 : Rm S d0 x0) (hx : x0.length = n) (hn : n ≤ 100) :
    defM false 1 5 (sSeq (sAsg (eLst true []) (gVar 1)) (sSeq (sFor (iRange [(eApp fLen [(eBin fIx (eVar 0) (eC (.int 0)))])]) (gVar 2) B sNext) (sRet (eApp fTupleK [(eVar 1)])))) [.lst (d0 :: ds)] S = colRes F n S := by
  have e0 : env0 5 [.lst (d0 :: ds)] = [some (.lst (d0 :: ds)), none, none, none, none] := rfl
  have r0 : ∀ {S : Store}, fIx (.lst (d0 :: ds)) (.int 0) S = .ok d0 S := fun {S} => ix_Q (i := 0) (ds := d0 :: ds) rfl rfl
  have h1 := Rm.app h0 (g := [some (.lst [])])
  have hr : iRange [(eApp fLen [(eBin fIx (eVar 0) (eC (.int 0)))])] [some (.lst (d0 :: ds)), some (.loc S.length), none, none, none] (S ++ [some (.lst [])]) = .ok ⟨(List.range n).map fun (k : Nat) => D.int k, []⟩ (S ++ [some (.lst [])]) := by
    have := range1 (m := (eApp fLen [(eBin fIx (eVar 0) (eC (.int 0)))])) (env := [some (.lst (d0 :: ds)), some (.loc S.length), none, none, none]) (S0 := S ++ [some (.lst [])]) (S := S ++ [some (.lst [])]) (j := n) (by simp [r0, lenQ h1.q, hx]) (by omega) (by omega)
    simpa using this
  obtain ⟨o2, o3, g, q⟩ := col_loop hB hn (it := ⟨(List.range n).map fun (k : Nat) => D.int k, []⟩) rfl n 0 (by omega) (ms := []) (o2 := none) (o3 := none) rfl
  rw [← List.range_eq_range'] at q
  simp only [I, List.map_nil, List.nil_append] at q
  cases em : (List.range n).mapM F with
  | none =>
    rw [em] at q
    have key : outR ((sSeq (sAsg (eLst true []) (gVar 1)) (sSeq (sFor (iRange [(eApp fLen [(eBin fIx (eVar 0) (eC (.int 0)))])]) (gVar 2) B sNext) (sRet (eApp fTupleK [(eVar 1)])))) (env0 5 [.lst (d0 :: ds)]) S) = .ok .non (S ++ g) := by
      rw [e0]
      simp [hr, q, -ap_turnF]
    have z := defM_ok (np := 1) rfl key rfl
    simp only [colRes, em]
    exact z
  | some m =>
    rw [em] at q
    have key : outR ((sSeq (sAsg (eLst true []) (gVar 1)) (sSeq (sFor (iRange [(eApp fLen [(eBin fIx (eVar 0) (eC (.int 0)))])]) (gVar 2) B sNext) (sRet (eApp fTupleK [(eVar 1)])))) (env0 5 [.lst (d0 :: ds)]) S) = .ok (.ktup (I m)) (S ++ [some (.lst (I m))]) := by
      rw [e0]
      simp [hr, q, -ap_turnF, tupK_L (d := .loc S.length) (asL_loc (S := S ++ [some (.lst (I m))]) get_last)]
    have z := defM_ok (np := 1) rfl key lb_ktI
    simp only [colRes, em]
    exact z
theorem law_meet_spec {d0 : D} {x0 : List Int} {ds : List D} {rs : List (List Int)} (h : Rws S (d0 :: ds) (x0 :: rs)) (hn : ∀ r ∈ x0 :: rs, r.length = n) (h100 : n ≤ 100) : f_law_meet [.lst (d0 :: ds)] S = colRes (lawF (x0 :: rs)) n S :=
  col_spec (lm_turn h hn) h.1 (hn _ (by simp)) h100
theorem law_join_spec {d0 : D} {x0 : List Int} {ds : List D} {rs : List (List Int)} (h : Rws S (d0 :: ds) (x0 :: rs)) (hn : ∀ r ∈ x0 :: rs, r.length = n) (h100 : n ≤ 100) : f_law_join [.lst (d0 :: ds)] S = colRes (joinF x0 (x0 :: rs)) n S :=
  col_spec (lj_turn h hn) h.1 (hn _ (by simp)) h100
end
/-! ### rows against places -/
theorem crow_split {f : Int → Int → Option Int} {a : Int} {as : List Int} {b : Int} {bs : List Int} : crow f (a :: as) (b :: bs) = (f a b).bind fun v => (crow f as bs).map (v :: ·) := by
  simp only [crow]
  cases f a b <;> rfl
theorem fold_split {f : Int → Int → Option Int} : ∀ {rs : List (List Int)} {a : Int} {as : List Int} {n : Nat}, as.length = n → (∀ r ∈ rs, r.length = n + 1) → rs.foldlM (crow f) (a :: as) = ((rs.map fun r => r.getD 0 0).foldlM f a).bind fun v => ((rs.map (·.drop 1)).foldlM (crow f) as).map (v :: ·)
  | [], a, as, n, _, _ => rfl
  | r :: rs, a, as, n, ha, hr => by
    match r, hr r (by simp) with
    | b :: bs, hb =>
      have hbs : bs.length = n := by simpa using hb
      simp only [List.foldlM_cons, List.map_cons, crow_split]
      have e1 : (b :: bs).getD 0 0 = b := rfl
      have e2 : (b :: bs).drop 1 = bs := rfl
      rw [e1, e2]
      cases h1 : f a b with
      | none => rfl
      | some v =>
        cases h2 : crow f as bs with
        | none =>
          show (none : Option (List Int)) = _
          cases ((rs.map fun r => r.getD 0 0).foldlM f v : Option Int) with
          | none => simp [h1]
          | some w => simp [h1]
        | some m =>
          have := fold_split (f := f) (rs := rs) (a := v) (as := m) (n := n) (by rw [crow_len (by rw [ha, hbs]) h2, ha]) (fun r hr' => hr r (by simp [hr']))
          simpa using this
theorem mapM_map' {α β γ : Type} {f : β → Option γ} {g : α → β} : ∀ {l : List α}, (l.map g).mapM f = l.mapM fun a => f (g a)
  | [] => rfl
  | a :: l => by rw [List.map_cons, List.mapM_cons, List.mapM_cons, mapM_map']
theorem mapM_congr' {α β : Type} {f g : α → Option β} : ∀ {l : List α}, (∀ a ∈ l, f a = g a) → l.mapM f = l.mapM g
  | [], _ => rfl
  | a :: l, h => by rw [List.mapM_cons, List.mapM_cons, h a (by simp), mapM_congr' fun b hb => h b (by simp [hb])]
theorem fold_cols {f : Int → Int → Option Int} : ∀ {n : Nat} {rs : List (List Int)} {as : List Int}, as.length = n → (∀ r ∈ rs, r.length = n) → rs.foldlM (crow f) as = (List.range n).mapM fun k => (colOf rs k).foldlM f (as.getD k 0)
  | 0, rs, as, ha, hr => by
    have : as = [] := List.length_eq_zero_iff.mp ha
    subst this
    simp only [List.range_zero, List.mapM_nil]
    induction rs with
    | nil => rfl
    | cons r rs ih =>
      have : r = [] := List.length_eq_zero_iff.mp (hr r (by simp))
      subst this
      rw [List.foldlM_cons]
      exact ih fun r hr' => hr r (by simp [hr'])
  | n + 1, rs, a :: as, ha, hr => by
    have ha' : as.length = n := by simpa using ha
    rw [fold_split ha' hr, fold_cols ha' (fun r hr' => by
      obtain ⟨r', h1, rfl⟩ := List.mem_map.mp hr'
      rw [List.length_drop, hr r' h1]
      rfl)]
    rw [List.range_succ_eq_map, List.mapM_cons, mapM_map']
    have e : (List.range n).mapM (fun k => (colOf (rs.map (·.drop 1)) k).foldlM f (as.getD k 0)) = (List.range n).mapM fun k => (colOf rs (k + 1)).foldlM f ((a :: as).getD (k + 1) 0) := mapM_congr' fun k hk => by
      have : colOf (rs.map (·.drop 1)) k = colOf rs (k + 1) := by
        unfold colOf
        rw [List.map_map]
        apply List.map_congr_left
        intro r hr'
        simp only [Function.comp, List.getD_eq_getElem?_getD, List.getElem?_drop]
        rw [Nat.add_comm]
      rw [this]
      simp
    rw [e]
    have e0 : colOf rs 0 = rs.map fun r => r.getD 0 0 := rfl
    rw [e0]
    show _ = (((rs.map fun r => r.getD 0 0).foldlM f a : Option Int).bind fun v => ((List.range n).mapM fun k => (colOf rs (k + 1)).foldlM f ((a :: as).getD (k + 1) 0)).bind fun l => some (v :: l))
    cases ((rs.map fun r => r.getD 0 0).foldlM f a : Option Int) with
    | none => rfl
    | some v =>
      simp only [Option.bind_some]
      cases ((List.range n).mapM fun k => (colOf rs (k + 1)).foldlM f ((a :: as).getD (k + 1) 0) : Option (List Int)) <;> rfl
theorem mt_fold : ∀ {col : List Int} {a : Int}, okM a = true → col.all okM = true → col.foldlM mt1 a = lawCol (a :: col)
  | [], a, ha, _ => by
    simp [okM] at ha
    rcases ha with (ha | ha) | ha <;> subst ha <;> rfl
  | b :: col, a, ha, h => by
    rw [List.all_cons, Bool.and_eq_true] at h
    simp [okM] at ha
    have hb := h.1
    simp [okM] at hb
    rw [List.foldlM_cons]
    have ih := fun v hv => mt_fold (col := col) (a := v) hv h.2
    rcases ha with (ha | ha) | ha <;> subst ha <;> rcases hb with (hb | hb) | hb <;> subst hb <;> simp [mt1, ih, okM, lawCol]
theorem jn_fold : ∀ {col : List Int} {a : Int}, col.foldlM jn1 a = some (if (col.filter (· != a)).isEmpty then a else 2)
  | [], a => rfl
  | b :: col, a => by
    rw [List.foldlM_cons]
    by_cases h : b = a
    · subst h
      simp [jn1, jn_fold]
    · simp [jn1, h, jn_fold]
theorem meet_cols {n : Nat} {x0 : List Int} {rs : List (List Int)} (h : ∀ r ∈ x0 :: rs, r.length = n ∧ r.all okM = true) : (x0 :: rs).foldlM (crow mt1) x0 = (List.range n).mapM (lawF (x0 :: rs)) := by
  rw [fold_cols (n := n) (h x0 (by simp)).1 fun r hr => (h r hr).1]
  refine mapM_congr' fun k hk => ?_
  have hk : k < n := by simpa using hk
  have okk : ∀ r ∈ x0 :: rs, okM (r.getD k 0) = true := fun r hr => by
    obtain ⟨h1, h2⟩ := h r hr
    have : r.getD k 0 = r[k] := by simp [show k < r.length by omega]
    rw [this]
    exact List.all_eq_true.mp h2 _ (List.getElem_mem _)
  have okc : (colOf (x0 :: rs) k).all okM = true := by
    rw [List.all_eq_true]
    intro c hc
    obtain ⟨r, hr, rfl⟩ := List.mem_map.mp hc
    exact okk r hr
  rw [mt_fold (okk x0 (by simp)) okc]
  unfold lawF lawCol
  have e : colOf (x0 :: rs) k = x0.getD k 0 :: colOf rs k := rfl
  rw [e]
  generalize x0.getD k 0 = a
  by_cases ha : a = 2
  · simp [ha]
  · simp [ha]
theorem join_cols {n : Nat} {x0 : List Int} {rs : List (List Int)} (h : ∀ r ∈ x0 :: rs, r.length = n) : (x0 :: rs).foldlM (crow jn1) x0 = (List.range n).mapM (joinF x0 (x0 :: rs)) := by
  rw [fold_cols (n := n) (h x0 (by simp)) h]
  refine mapM_congr' fun k hk => ?_
  rw [jn_fold]
  rfl
end K02
/-! ## P02i -/
set_option Elab.async false
set_option linter.all false
set_option maxRecDepth 100000
set_option maxHeartbeats 2000000
namespace K02
open PySem PySem.Spec
open PyProof.Rows hiding St
open L2 EV0 EV
theorem ins_cons {g b : Int} {st bs : List Int} : ins (g :: st) (b :: bs) = (insB (g, b) && ins st bs) := by simp [ins]
theorem filt_map {g b : Int} {sts : List (List Int)} {bs : List Int} : (sts.map (g :: ·)).filter (ins · (b :: bs)) = if insB (g, b) then (sts.filter (ins · bs)).map (g :: ·) else [] := by
  induction sts with
  | nil => simp
  | cons s sts ih =>
    rw [List.map_cons, List.filter_cons, ih, ins_cons, List.filter_cons]
    cases insB (g, b) <;> cases ins s bs <;> simp
theorem LS_cons {a : Int} {as : List Int} : LS (a :: as) = (dig a).flatMap fun g => (LS as).map (g :: ·) := rfl
theorem inter : ∀ {as bs : List Int}, as.length = bs.length → as.all okM = true → bs.all okM = true → match crow mt1 as bs with
    | none => (LS as).filter (ins · bs) = []
    | some m => LS m = (LS as).filter (ins · bs) ∧ m.all okM = true ∧ m.count 2 ≤ as.count 2
  | [], [], _, _, _ => by simp [crow, LS, ins]
  | a :: as, b :: bs, hl, ha, hb => by
    rw [List.all_cons, Bool.and_eq_true] at ha hb
    have ih := inter (as := as) (bs := bs) (by simpa using hl) ha.2 hb.2
    have ha1 := ha.1
    have hb1 := hb.1
    simp [okM] at ha1 hb1
    rw [crow_split]
    cases e : crow mt1 as bs with
    | none =>
      rw [e] at ih
      have ih : (LS as).filter (ins · bs) = [] := ih
      have z : (LS (a :: as)).filter (ins · (b :: bs)) = [] := by
        rw [LS_cons]
        rcases ha1 with (h | h) | h <;> subst h <;> simp [dig, filt_map, ih]
      cases mt1 a b <;> exact z
    | some m =>
      rw [e] at ih
      obtain ⟨h1, h2, h3⟩ := ih
      rcases ha1 with (h | h) | h <;> subst h <;> rcases hb1 with (h | h) | h <;> subst h <;> simp [mt1, LS_cons, dig, filt_map, insB, h1, h2, h3, okM, List.count_cons] <;> omega
  | [], _ :: _, h, _, _ => by simp at h
  | _ :: _, [], h, _, _ => by simp at h
theorem crow_self : ∀ {as : List Int}, crow mt1 as as = some as
  | [] => rfl
  | a :: as => by
    rw [crow_split, crow_self]
    by_cases h : a = 2 <;> simp [mt1, h]
theorem jrow_self : ∀ {as : List Int}, crow jn1 as as = some as
  | [] => rfl
  | a :: as => by
    rw [crow_split, jrow_self]
    simp [jn1]
/-- a row that is a room of n houses -/
structure VR (S : Store) (n : Nat) (d : D) (xs : List Int) : Prop where
  rm : Rm S d xs
  len : xs.length = n
  ok : xs.all okM = true
section
variable {S : Store} {n : Nat} {d1 d2 d3 : D} {x1 x2 x3 : List Int}
theorem VR.lone (h : VR S n d1 x1) (h1 : 1 ≤ n) (h12 : n ≤ 12) : lone x1 = true := by
  simp [K02.lone, h.len, h.ok, h1, h12]
def VRs (S : Store) (n : Nat) (ds : List D) (rs : List (List Int)) : Prop := Rws S ds rs ∧ ∀ r ∈ rs, r.length = n ∧ r.all okM = true
theorem cm_valid {f : Int → Int → Option Int} {F : Nat → Option Int} {rs : List (List Int)} (h : x1.length = n ∧ x1.all okM = true) (hr : ∀ r ∈ rs, r.length = n ∧ r.all okM = true) (h1 : 1 ≤ n) (h12 : n ≤ 12) (hF : (x1 :: rs).foldlM (crow f) x1 = (List.range n).mapM F) : cmRes f x1 rs S = colRes F n S := by
  have hl : K02.lone x1 = true := by simp [K02.lone, h.1, h.2, h1, h12]
  have hf : rs.find? (fun r => !okR x1.length r) = none := by
    rw [List.find?_eq_none]
    intro r hr'
    obtain ⟨q1, q2⟩ := hr r hr'
    simp [okR, q1, q2, h.1]
  unfold cmRes colRes
  rw [if_pos hl, hf, hF] <;> (cases (List.range n).mapM F <;> rfl)
theorem meet_valid {ds : List D} {rs : List (List Int)} (h : VRs S n (d1 :: ds) (x1 :: rs)) (h1 : 1 ≤ n) (h12 : n ≤ 12) (hz : rs.length ≤ 900) : f_meet (d1 :: ds) S = colRes (lawF (x1 :: rs)) n S := by
  rw [meet_spec h.1.1 h.1.2 hz]
  exact cm_valid (h.2 x1 (by simp)) (fun r hr => h.2 r (by simp [hr])) h1 h12 (meet_cols h.2)
theorem join_valid {ds : List D} {rs : List (List Int)} (h : VRs S n (d1 :: ds) (x1 :: rs)) (h1 : 1 ≤ n) (h12 : n ≤ 12) (hz : rs.length ≤ 900) : f_join (d1 :: ds) S = colRes (joinF x1 (x1 :: rs)) n S := by
  rw [join_spec h.1.1 h.1.2 hz]
  exact cm_valid (h.2 x1 (by simp)) (fun r hr => h.2 r (by simp [hr])) h1 h12 (join_cols fun r hr => (h.2 r hr).1)
theorem lmeet_valid {ds : List D} {rs : List (List Int)} (h : VRs S n (d1 :: ds) (x1 :: rs)) (h12 : n ≤ 12) : f_law_meet [.lst (d1 :: ds)] S = colRes (lawF (x1 :: rs)) n S := law_meet_spec h.1 (fun r hr => (h.2 r hr).1) (by omega)
theorem ljoin_valid {ds : List D} {rs : List (List Int)} (h : VRs S n (d1 :: ds) (x1 :: rs)) (h12 : n ≤ 12) : f_law_join [.lst (d1 :: ds)] S = colRes (joinF x1 (x1 :: rs)) n S := law_join_spec h.1 (fun r hr => (h.2 r hr).1) (by omega)
theorem mapM_len {α β : Type} {f : α → Option β} : ∀ {l : List α} {m : List β}, l.mapM f = some m → m.length = l.length
  | [], m, h => by simp at h; subst h; rfl
  | a :: l, m, h => by
    rw [List.mapM_cons] at h
    cases e : f a with
    | none => rw [e] at h; cases h
    | some b =>
      cases e2 : l.mapM f with
      | none => rw [e, e2] at h; cases h
      | some k => rw [e, e2] at h; cases h; simp [mapM_len e2]
/-- a result of places, as a value: it is the same as itself -/
theorem col_same {F : Nat → Option Int} (h12 : n ≤ 12) : ∃ d, colRes F n S = .ok d S ∧ f_law_same 4 [d, d] S = .ok (.bl true) S ∧ (∀ c fs, d ≠ .exn c fs) := by
  unfold colRes
  cases e : (List.range n).mapM F with
  | none => exact ⟨_, rfl, same_non, fun _ _ h => nomatch h⟩
  | some m =>
    have := mapM_len e
    rw [List.length_range] at this
    exact ⟨_, rfl, same1 rfl rfl (by omega), fun _ _ h => nomatch h⟩
noncomputable abbrev cmB : SM := (sIf (bAnd (bTru (eApp f_law_inside [(eVar 5), (eVar 1)])) (bTru (eApp f_law_inside [(eVar 5), (eVar 2)]))) (sExpr (eMeth2 (some fmAppend) none (eVar 4) [(eVar 5)])) sNext)
/-- a turn: a state that lies inside both is put behind -/
theorem common_turn (r2 : Rm S d2 x2) (r3 : Rm S d3 x3) (h2 : x2.length = n) (h3 : x3.length = n) (h12 : n ≤ 12) {e0 e3 o5 : Option D} {st : List Int} {acc : List (List Int)} (hst : st.length = n) (hz : acc.length ≤ 1000) :
    turnF (gVar 5) cmB (.tup (I st)) [e0, some d2, some d3, e3, some (.loc S.length), o5] (S ++ [some (.lst (T acc))]) = .nx [e0, some d2, some d3, e3, some (.loc S.length), some (.tup (I st))] (S ++ [some (.lst (T (acc ++ if ins st x2 && ins st x3 then [st] else [])))]) := by
  have q2 := Rm.app r2 (g := [some (.lst (T acc))])
  have q3 := Rm.app r3 (g := [some (.lst (T acc))])
  have i2 := law_inside_spec (S := S ++ [some (.lst (T acc))]) (d := .tup (I st)) rfl q2.q (by omega) (by omega)
  have i3 := law_inside_spec (S := S ++ [some (.lst (T acc))]) (d := .tup (I st)) rfl q3.q (by omega) (by omega)
  have ap : fmAppend (.loc S.length) [.tup (I st)] (S ++ [some (.lst (T acc))]) = .ok .non (S ++ [some (.lst (T (acc ++ [st])))]) := by
    rw [append_loc get_last (Nat.lt_of_lt_of_le (show (T acc).length < 100000 by simp; omega) (big_size (Nat.le_refl _))), set_last]
    simp [T]
  have hl : asL (S ++ [some (.lst (T acc))]) (.loc S.length) = some (T acc) := asL_loc get_last
  generalize hS : S ++ [some (Cell.lst (T acc))] = S1 at *
  unfold cmB
  generalize f_law_inside = F at *
  have v1 : ∀ {x l}, eVar 1 (x :: some d2 :: l) S1 = .ok d2 S1 := fun {x l} => varQ rfl q2.q
  have v2 : ∀ {x y l}, eVar 2 (x :: y :: some d3 :: l) S1 = .ok d3 S1 := fun {x y l} => varQ rfl q3.q
  have ml : ∀ {env ms}, env[4]? = some (some (.loc S.length)) → eMeth2 (some fmAppend) none (eVar 4) ms env S1 = (aList ms env S1).bind fun as S2 => fmAppend (.loc S.length) as S2 := fun {env ms} he => meth_L (ds := T acc) (by simp [he]) hl
  have t1 : bTru (eApp F [(eVar 5), (eVar 1)]) [e0, some d2, some d3, e3, some (.loc S.length), some (.tup (I st))] S1 = .ok (ins st x2) S1 := by
    rw [ap_bTru, ap_eApp, ap_cons, var_tup rfl, bind_ok, ap_cons, v1, bind_ok, ap_nil, bind_ok, bind_ok, bind_ok, i2]
    rfl
  have t2 : bTru (eApp F [(eVar 5), (eVar 2)]) [e0, some d2, some d3, e3, some (.loc S.length), some (.tup (I st))] S1 = .ok (ins st x3) S1 := by
    rw [ap_bTru, ap_eApp, ap_cons, var_tup rfl, bind_ok, ap_cons, v2, bind_ok, ap_nil, bind_ok, bind_ok, bind_ok, i3]
    rfl
  have t3 : sExpr (eMeth2 (some fmAppend) none (eVar 4) [(eVar 5)]) [e0, some d2, some d3, e3, some (.loc S.length), some (.tup (I st))] S1 = .nx [e0, some d2, some d3, e3, some (.loc S.length), some (.tup (I st))] (S ++ [some (.lst (T (acc ++ [st])))]) := by
    rw [ap_sExpr, ml rfl, ap_cons, var_tup rfl, bind_ok, ap_nil, bind_ok, bind_ok, ap]
    rfl
  have g5 : gVar 5 (.tup (I st)) [e0, some d2, some d3, e3, some (.loc S.length), o5] S1 = .ok [e0, some d2, some d3, e3, some (.loc S.length), some (.tup (I st))] S1 := rfl
  rw [ap_turnF, g5]
  show sIf _ _ _ _ _ = _
  rw [ap_sIf, ap_bAnd, t1, bind_ok]
  cases hc1 : ins st x2 with
  | false =>
    rw [if_neg (by decide), R.then_ok, if_neg (by decide), ap_sNext]
    simp only [Bool.false_and, Bool.false_eq_true, if_false, List.append_nil]
    rw [hS]
  | true =>
    rw [if_pos rfl, t2, R.then_ok]
    cases hc2 : ins st x3 with
    | false =>
      rw [if_neg (by decide), ap_sNext]
      simp only [Bool.and_false, Bool.false_eq_true, if_false, List.append_nil]
      rw [hS]
    | true =>
      rw [if_pos rfl, t3]
      rfl
/-- the common states are put behind each other -/
theorem common_loop {it : ItS} (hi : it.g = []) (r2 : Rm S d2 x2) (r3 : Rm S d3 x3) (h2 : x2.length = n) (h3 : x3.length = n) (h12 : n ≤ 12) {e0 e3 : Option D} (sts : List (List Int)) : ∀ {acc : List (List Int)} {o5 : Option D}, (∀ st ∈ sts, st.length = n) → acc.length + sts.length ≤ 1000 →
    ∃ o5', loopF it (turnF (gVar 5) cmB) sNext (T sts) [e0, some d2, some d3, e3, some (.loc S.length), o5] (S ++ [some (.lst (T acc))]) = .nx [e0, some d2, some d3, e3, some (.loc S.length), o5'] (S ++ [some (.lst (T (acc ++ sts.filter fun st => ins st x2 && ins st x3)))]) := by
  induction sts with
  | nil =>
    intro acc o5 _ _
    refine ⟨o5, ?_⟩
    simp only [T, List.map_nil]
    rw [loop_nil (fun p hp => by rw [hi] at hp; cases hp)]
    simp
  | cons st sts ih =>
    intro acc o5 hs hz
    have hg : gOk (S ++ [some (.lst (T acc))]) it := fun p hp => by rw [hi] at hp; cases hp
    rw [List.length_cons] at hz
    have t := common_turn r2 r3 h2 h3 h12 (e0 := e0) (e3 := e3) (o5 := o5) (acc := acc) (hs st (by simp)) (by omega)
    obtain ⟨o5', q⟩ := ih (acc := acc ++ if ins st x2 && ins st x3 then [st] else []) (o5 := some (.tup (I st))) (fun s hs' => hs s (by simp [hs'])) (by
      rw [List.length_append]
      split <;> simp <;> omega)
    refine ⟨o5', ?_⟩
    show loopF it _ sNext (.tup (I st) :: T sts) _ _ = _
    rw [loop_cons hg, t]
    show loopF it _ sNext _ _ _ = _
    rw [q, List.filter_cons, List.append_assoc]
    congr 6
    split <;> simp
end
end K02
/-! ## P02j -/
set_option Elab.async false
set_option linter.all false
set_option maxRecDepth 100000
set_option maxHeartbeats 1000000
namespace K02
open PySem PySem.Spec
open PyProof.Rows hiding St
open L2 EV0 EV
/-- the states of a meet of three are the states of the first inside both others -/
theorem common3 {n : Nat} {x1 x2 x3 : List Int} (h : ∀ r ∈ [x1, x2, x3], r.length = n ∧ r.all okM = true) : match (List.range n).mapM (lawF [x1, x2, x3]) with
    | none => (LS x1).filter (fun st => ins st x2 && ins st x3) = []
    | some m => LS m = (LS x1).filter (fun st => ins st x2 && ins st x3) ∧ m.all okM = true ∧ m.length = n ∧ m.count 2 ≤ x1.count 2 := by
  rw [← meet_cols h]
  simp only [List.foldlM_cons, List.foldlM_nil, crow_self]
  obtain ⟨l1, o1⟩ := h x1 (by simp)
  obtain ⟨l2, o2⟩ := h x2 (by simp)
  obtain ⟨l3, o3⟩ := h x3 (by simp)
  have i1 := inter (as := x1) (bs := x2) (by omega) o1 o2
  have ff : (LS x1).filter (fun st => ins st x2 && ins st x3) = ((LS x1).filter (ins · x2)).filter (ins · x3) := by
    rw [List.filter_filter]
    congr 1
    funext st
    exact Bool.and_comm _ _
  rw [ff]
  cases e1 : crow mt1 x1 x2 with
  | none =>
    rw [e1] at i1
    have i1 : (LS x1).filter (ins · x2) = [] := i1
    simp [i1, e1]
  | some m =>
    rw [e1] at i1
    obtain ⟨q1, q2, q3⟩ := i1
    have lm := crow_len (by omega) e1
    have i2 := inter (as := m) (bs := x3) (by omega) q2 o3
    rw [← q1]
    cases e2 : crow mt1 m x3 with
    | none =>
      rw [e2] at i2
      have i2 : (LS m).filter (ins · x3) = [] := i2
      simp [i2, e1, e2]
    | some m' =>
      rw [e2] at i2
      obtain ⟨p1, p2, p3⟩ := i2
      have lm' := crow_len (by omega) e2
      simp [e1, e2]
      exact ⟨p1, by simpa using p2, by omega, by omega⟩
section
variable {S : Store} {n : Nat} {d1 d2 d3 : D} {x1 x2 x3 : List Int}
noncomputable abbrev lmTail : SM := (sSeq (sAsg (eLst true []) (gVar 4)) (sSeq (sFor (iPlain (eApp f_law_states [(eVar 0)])) (gVar 5) cmB sNext) (sSeq (sIf (bOf (eBin fIs (eVar 3) (eC .non))) (sRet (eUn fNot (eVar 4))) sNext) (sRet (eApp (f_law_same 4) [(eApp f_states_of [(eVar 3)]), (eApp fTupleK [(eVar 4)])])))))
theorem lm_tail (h1 : VR S n d1 x1) (h2 : VR S n d2 x2) (h3 : VR S n d3 x3) (hn1 : 1 ≤ n) (h12 : n ≤ 12) (h5 : n ≤ 5) {m : D} (hm : colRes (lawF [x1, x2, x3]) n S = .ok m S) : ∃ g, lmTail [some d1, some d2, some d3, some m, none, none] S = .rt (.bl true) (S ++ g) := by
  have c3 := common3 (n := n) (x1 := x1) (x2 := x2) (x3 := x3) (by
    intro r hr
    simp at hr
    rcases hr with h | h | h <;> subst h
    · exact ⟨h1.len, h1.ok⟩
    · exact ⟨h2.len, h2.ok⟩
    · exact ⟨h3.len, h3.ok⟩)
  have hc5 : x1.count 2 ≤ 5 := Nat.le_trans List.count_le_length (by rw [h1.len]; exact h5)
  have l32 : (LS x1).length ≤ 256 := by rw [LS_len]; exact show _ ≤ 2 ^ 8 from Nat.pow_le_pow_right (by decide) (by omega)
  obtain ⟨o5, q⟩ := common_loop (it := ⟨T (LS x1), []⟩) rfl h2.rm h3.rm h2.len h3.len h12 (e0 := some d1) (e3 := some m) (S := S) (LS x1) (acc := []) (o5 := none) (fun st hs => by rw [LS_wide hs, h1.len]) (by simp; omega)
  have ls := law_states_spec (S := S ++ [some (.lst [])]) (d := d1) (xs := x1) (Rm.app h1.rm).q h1.ok (by omega) (by rw [h1.len]; omega)
  rw [List.nil_append] at q
  generalize hcm : (LS x1).filter (fun st => ins st x2 && ins st x3) = cm at *
  refine ⟨[some (.lst (T cm))], ?_⟩
  have v0 : ∀ {l}, eVar 0 (some d1 :: l) (S ++ [some (.lst [])]) = .ok d1 (S ++ [some (.lst [])]) := fun {l} => varQ rfl (Rm.app h1.rm).q
  have hi : ∀ {S}, iterD S (.lst (T (LS x1))) = some ⟨T (LS x1), []⟩ := fun {S} => rfl
  have e1 : iPlain (eApp f_law_states [(eVar 0)]) [some d1, some d2, some d3, some m, some (.loc S.length), none] (S ++ [some (.lst [])]) = .ok ⟨T (LS x1), []⟩ (S ++ [some (.lst [])]) := by
    rw [ap_iPlain, ap_eApp, ap_cons, v0, bind_ok, ap_nil, bind_ok, bind_ok, ls, bind_ok, hi]
  have e2 : sAsg (eLst true []) (gVar 4) [some d1, some d2, some d3, some m, none, none] S = .nx [some d1, some d2, some d3, some m, some (.loc S.length), none] (S ++ [some (.lst [])]) := rfl
  have e3 : sFor (iPlain (eApp f_law_states [(eVar 0)])) (gVar 5) cmB sNext [some d1, some d2, some d3, some m, some (.loc S.length), none] (S ++ [some (.lst [])]) = .nx [some d1, some d2, some d3, some m, some (.loc S.length), o5] (S ++ [some (.lst (T cm))]) := by
    rw [ap_sFor, e1, R.then_ok]
    exact q
  unfold lmTail
  rw [ap_sSeq, e2]
  show sSeq _ _ _ _ = _
  rw [ap_sSeq, e3]
  show sSeq _ _ _ _ = _
  have hl : asL (S ++ [some (.lst (T cm))]) (.loc S.length) = some (T cm) := asL_loc get_last
  unfold colRes at hm
  cases em : (List.range n).mapM (lawF [x1, x2, x3]) with
  | none =>
    rw [em] at hm c3
    cases hm
    have c3 : cm = [] := c3
    subst c3
    have t : sIf (bOf (eBin fIs (eVar 3) (eC .non))) (sRet (eUn fNot (eVar 4))) sNext [some d1, some d2, some d3, some .non, some (.loc S.length), o5] (S ++ [some (.lst (T []))]) = .rt (.bl true) (S ++ [some (.lst (T []))]) := by
      have tr : fNot (.loc S.length) (S ++ [some (.lst (T []))]) = .ok (.bl true) (S ++ [some (.lst (T []))]) := by
        unfold fNot
        rw [tru_Q (asQ_L hl)]
        rfl
      rw [ap_sIf, ap_bOf, ap_eBin, var_non rfl, bind_ok, ap_eC, bind_ok, is_n, bind_ok]
      show sRet _ _ _ = _
      rw [ap_sRet, ap_eUn, var_loc rfl, bind_ok, tr]
      rfl
    rw [ap_sSeq, t]
  | some mm =>
    rw [em] at hm c3
    cases hm
    obtain ⟨p1, p2, p3, p4⟩ := c3
    have t : sIf (bOf (eBin fIs (eVar 3) (eC .non))) (sRet (eUn fNot (eVar 4))) sNext [some d1, some d2, some d3, some (.ktup (I mm)), some (.loc S.length), o5] (S ++ [some (.lst (T cm))]) = .nx [some d1, some d2, some d3, some (.ktup (I mm)), some (.loc S.length), o5] (S ++ [some (.lst (T cm))]) := by
      rw [ap_sIf, ap_bOf, ap_eBin, var_ktup rfl, bind_ok, ap_eC, bind_ok, is_n, bind_ok]
      rfl
    have so := states_of_spec (S := S ++ [some (.lst (T cm))]) (d := .ktup (I mm)) (xs := mm) (.inr rfl)
    have lo : lone mm = true := by simp [K02.lone, p2, p3, hn1, h12]
    rw [if_pos lo, if_neg (by omega), p1] at so
    have sm := same2 (S := S ++ [some (.lst (T cm))]) (a := .ktup (T cm)) (e := .ktup (T cm)) (sts := cm) rfl rfl (by rw [← p1, LS_len]; exact Nat.le_trans (show _ ≤ 2 ^ 8 from Nat.pow_le_pow_right (by decide) (by omega)) (by decide)) (fun st hs => by
      rw [← p1] at hs
      rw [LS_wide hs]
      omega)
    rw [ap_sSeq, t]
    show sRet _ _ _ = _
    rw [ap_sRet, ap_eApp, ap_cons, ap_eApp, ap_cons, var_ktup rfl, bind_ok, ap_nil, bind_ok, bind_ok, so, bind_ok, ap_cons, ap_eApp, ap_cons, var_loc rfl, bind_ok, ap_nil, bind_ok, bind_ok, tupK_L hl, bind_ok, ap_nil, bind_ok, bind_ok, bind_ok, sm]
    rfl
end
end K02
/-! ## P02k -/
set_option Elab.async false
set_option linter.all false
set_option maxRecDepth 100000
set_option maxHeartbeats 1000000
namespace K02
open PySem PySem.Spec
open PyProof.Rows hiding St
open L2 EV0 EV
section
variable {S : Store} {n : Nat} {d1 d2 d3 : D} {x1 x2 x3 : List Int}
theorem chk_ok {A B : EM} {env : EV.Env} {d e : D} (hA : A env S = .ok d S) (hB : B env S = .ok e S) (hs : f_law_same 4 [d, e] S = .ok (.bl true) S) : sIf (bNot (bTru (eApp (f_law_same 4) [A, B]))) (sRet (eC (.bl false))) sNext env S = .nx env S := by
  rw [ap_sIf, ap_bNot, ap_bTru, ap_eApp, ap_cons, hA, bind_ok, ap_cons, hB, bind_ok, ap_nil, bind_ok, bind_ok, bind_ok, hs]
  rfl
theorem seq_nx {a b : SM} {env env' : EV.Env} {S S' : Store} (h : a env S = .nx env' S') : sSeq a b env S = b env' S' := by rw [ap_sSeq, h]
theorem args3 {env : EV.Env} {a b c : EM} {x y z : D} (h1 : a env S = .ok x S) (h2 : b env S = .ok y S) (h3 : c env S = .ok z S) : aList [a, b, c] env S = .ok [x, y, z] S := by
  rw [ap_cons, h1, bind_ok, ap_cons, h2, bind_ok, ap_cons, h3, bind_ok, ap_nil, bind_ok, bind_ok, bind_ok]
theorem args2 {env : EV.Env} {a b : EM} {x y : D} (h1 : a env S = .ok x S) (h2 : b env S = .ok y S) : aList [a, b] env S = .ok [x, y] S := by
  rw [ap_cons, h1, bind_ok, ap_cons, h2, bind_ok, ap_nil, bind_ok, bind_ok]
theorem args1 {env : EV.Env} {a : EM} {x : D} (h1 : a env S = .ok x S) : aList [a] env S = .ok [x] S := by
  rw [ap_cons, h1, bind_ok, ap_nil, bind_ok]
theorem app_ok {f : FN} {ms : List EM} {env : EV.Env} {ds : List D} {r : EV.R D} (h : aList ms env S = .ok ds S) (hf : f ds S = r) : eApp f ms env S = r := by
  rw [ap_eApp, h, bind_ok, hf]
theorem lst_ok {ms : List EM} {env : EV.Env} {ds : List D} (h : aList ms env S = .ok ds S) : eLst false ms env S = .ok (.lst ds) S := by
  rw [ap_eLst, h, bind_ok, mkL_f]
theorem VRs.one (h1 : VR S n d1 x1) : VRs S n [d1] [x1] := ⟨⟨h1.rm, trivial⟩, fun r hr => by
  simp at hr
  subst hr
  exact ⟨h1.len, h1.ok⟩⟩
theorem VRs.cons {ds : List D} {rs : List (List Int)} (h1 : VR S n d1 x1) (h : VRs S n ds rs) : VRs S n (d1 :: ds) (x1 :: rs) := ⟨⟨h1.rm, h.1⟩, fun r hr => by
  rcases List.mem_cons.mp hr with rfl | hr
  · exact ⟨h1.len, h1.ok⟩
  · exact h.2 r hr⟩
theorem single {f : Int → Int → Option Int} (hf : crow f x1 x1 = some x1) (h1 : VR S n d1 x1) (hn1 : 1 ≤ n) (h12 : n ≤ 12) : cmRes f x1 [] S = .ok (.ktup (I x1)) S := by
  unfold cmRes
  rw [if_pos (h1.lone hn1 h12)]
  simp [hf]
theorem law_meets_spec (h1 : VR S n d1 x1) (h2 : VR S n d2 x2) (h3 : VR S n d3 x3) (hn1 : 1 ≤ n) (h12 : n ≤ 12) : f_law_meets [d1, d2, d3] S = .ok (.bl true) S := by
  have e0 : env0 6 [d1, d2, d3] = [some d1, some d2, some d3, none, none, none] := rfl
  have v0 : ∀ {l}, eVar 0 (some d1 :: l) S = .ok d1 S := fun {l} => varQ rfl h1.rm.q
  have v1 : ∀ {x l}, eVar 1 (x :: some d2 :: l) S = .ok d2 S := fun {x l} => varQ rfl h2.rm.q
  have v2 : ∀ {x y l}, eVar 2 (x :: y :: some d3 :: l) S = .ok d3 S := fun {x y l} => varQ rfl h3.rm.q
  have V3 := VRs.cons h1 (VRs.cons h2 (VRs.one h3))
  have V2 := VRs.cons h1 (VRs.one h2)
  obtain ⟨m, m1, m2, m3⟩ := col_same (S := S) (n := n) (F := lawF [x1, x2, x3]) h12
  obtain ⟨j, j1, j2, j3⟩ := col_same (S := S) (n := n) (F := joinF x1 [x1, x2, x3]) h12
  obtain ⟨a, a1, a2, a3⟩ := col_same (S := S) (n := n) (F := lawF [x1, x2]) h12
  obtain ⟨b, b1, b2, b3⟩ := col_same (S := S) (n := n) (F := joinF x1 [x1, x2]) h12
  have f1 := meet_valid V3 hn1 h12 (by simp)
  have f2 := lmeet_valid V3 h12
  have f3 := join_valid V3 hn1 h12 (by simp)
  have f4 := ljoin_valid V3 h12
  have f5 := meet_valid V2 hn1 h12 (by simp)
  have f6 := lmeet_valid V2 h12
  have f7 := join_valid V2 hn1 h12 (by simp)
  have f8 := ljoin_valid V2 h12
  rw [m1] at f1 f2
  rw [j1] at f3 f4
  rw [a1] at f5 f6
  rw [b1] at f7 f8
  have s1 : f_meet [d1] S = .ok (.ktup (I x1)) S := by rw [meet_spec (es := []) (rs := []) h1.rm trivial (by simp), single crow_self h1 hn1 h12]
  have s3 : f_join [d3] S = .ok (.ktup (I x3)) S := by rw [join_spec (es := []) (rs := []) h3.rm trivial (by simp), single jrow_self h3 hn1 h12]
  have key : ∃ g, outR (b_law_meets (env0 6 [d1, d2, d3]) S) = .ok (.bl true) (S ++ g) := by
    rw [e0]
    unfold b_law_meets
    have t0 : sAsg (eApp f_meet [(eVar 0), (eVar 1), (eVar 2)]) (gVar 3) [some d1, some d2, some d3, none, none, none] S = .nx [some d1, some d2, some d3, some m, none, none] S := by
      rw [ap_sAsg, app_ok (args3 v0 v1 v2) f1]
      rfl
    have v3 : ∀ {x y z l}, eVar 3 (x :: y :: z :: some m :: l) S = .ok m S := fun {x y z l} => var_at rfl m3
    rw [seq_nx t0, seq_nx (chk_ok v3 (app_ok (args1 (lst_ok (args3 v0 v1 v2))) f2) m2), seq_nx (chk_ok (app_ok (args3 v0 v1 v2) f3) (app_ok (args1 (lst_ok (args3 v0 v1 v2))) f4) j2),
      seq_nx (chk_ok (app_ok (args2 v0 v1) f5) (app_ok (args1 (lst_ok (args2 v0 v1))) f6) a2), seq_nx (chk_ok (app_ok (args2 v0 v1) f7) (app_ok (args1 (lst_ok (args2 v0 v1))) f8) b2)]
    have t5 : ∀ env : EV.Env, eVar 0 env S = .ok d1 S → eVar 2 env S = .ok d3 S → sIf (bOr (bNot (bTru (eApp (f_law_same 4) [(eApp f_meet [(eVar 0)]), (eApp fTupleK [(eVar 0)])]))) (bNot (bTru (eApp (f_law_same 4) [(eApp f_join [(eVar 2)]), (eApp fTupleK [(eVar 2)])])))) (sRet (eC (.bl false))) sNext env S = .nx env S := fun env e0 e2 => by
      have q1 : bNot (bTru (eApp (f_law_same 4) [(eApp f_meet [(eVar 0)]), (eApp fTupleK [(eVar 0)])])) env S = .ok false S := by
        rw [ap_bNot, ap_bTru, app_ok (args2 (app_ok (args1 e0) s1) (app_ok (args1 e0) h1.rm.tup)) (same1 rfl rfl (by rw [h1.len]; omega))]
        rfl
      have q2 : bNot (bTru (eApp (f_law_same 4) [(eApp f_join [(eVar 2)]), (eApp fTupleK [(eVar 2)])])) env S = .ok false S := by
        rw [ap_bNot, ap_bTru, app_ok (args2 (app_ok (args1 e2) s3) (app_ok (args1 e2) h3.rm.tup)) (same1 rfl rfl (by rw [h3.len]; omega))]
        rfl
      rw [ap_sIf, ap_bOr, q1, bind_ok, if_neg (by decide), q2]
      rfl
    rw [seq_nx (t5 _ v0 v2)]
    have t6 : bOf (eBin fGt (eApp fLen [(eVar 0)]) (eC (.int 5))) [some d1, some d2, some d3, some m, none, none] S = .ok (decide ((5 : Int) < n)) S := by
      rw [ap_bOf, ap_eBin, app_ok (args1 v0) (lenQ h1.rm.q), bind_ok, ap_eC, bind_ok, gt_ii, bind_ok, h1.len]
    by_cases h5 : n ≤ 5
    · have t7 : sIf (bOf (eBin fGt (eApp fLen [(eVar 0)]) (eC (.int 5)))) (sRet (eC (.bl true))) sNext [some d1, some d2, some d3, some m, none, none] S = .nx [some d1, some d2, some d3, some m, none, none] S := by
        rw [ap_sIf, t6, R.then_ok, if_neg (by simp; omega)]
        rfl
      rw [seq_nx t7]
      obtain ⟨g, q⟩ := lm_tail h1 h2 h3 hn1 h12 h5 m1
      exact ⟨g, by
        have q : (sSeq (sAsg (eLst true []) (gVar 4)) _) _ S = _ := q
        rw [q]
        rfl⟩
    · refine ⟨[], ?_⟩
      have t7 : sIf (bOf (eBin fGt (eApp fLen [(eVar 0)]) (eC (.int 5)))) (sRet (eC (.bl true))) sNext [some d1, some d2, some d3, some m, none, none] S = .rt (.bl true) S := by
        rw [ap_sIf, t6, R.then_ok, if_pos (by simp; omega)]
        rfl
      rw [ap_sSeq, t7, List.append_nil]
      rfl
  obtain ⟨g, key⟩ := key
  exact defM_ok rfl key rfl
end
end K02
/-! ## P02l -/
set_option Elab.async false
set_option linter.all false
set_option maxRecDepth 100000
set_option maxHeartbeats 1000000
namespace K02
open PySem PySem.Spec
open PyProof.Rows hiding St
open L2 EV0 EV
section
variable {S : Store} {n : Nat}
theorem VRs.hd {d : D} {x : List Int} {ds : List D} {rs : List (List Int)} (h : VRs S n (d :: ds) (x :: rs)) : VR S n d x := ⟨h.1.1, (h.2 x (by simp)).1, (h.2 x (by simp)).2⟩
theorem VRs.tl {d : D} {x : List Int} {ds : List D} {rs : List (List Int)} (h : VRs S n (d :: ds) (x :: rs)) : VRs S n ds rs := ⟨h.1.2, fun r hr => h.2 r (by simp [hr])⟩
theorem argsV : ∀ {ms : List EM} {env : EV.Env} {ds : List D}, List.length ms = ds.length → (∀ (i : Nat) (h : i < ms.length) (h' : i < ds.length), ms[i] env S = .ok ds[i] S) → aList ms env S = .ok ds S
  | [], _, [], _, _ => rfl
  | m :: ms, env, d :: ds, hl, h => by
    have h0 := h 0 (by simp) (by simp)
    have h1 := argsV (ms := ms) (env := env) (ds := ds) (by simpa using hl) fun i hi hi' => h (i + 1) (by simpa using hi) (by simpa using hi')
    have h0 : m env S = .ok d S := h0
    rw [ap_cons, h0, bind_ok, h1, bind_ok]
  | [], _, _ :: _, hl, _ => by simp at hl
  | _ :: _, _, [], hl, _ => by simp at hl
theorem sl_lst {ds : List D} {lo hi : Option Int} {es : List D} (h : cutD ds lo hi = es) : fSl (.lst ds) lo hi S = .ok (.lst es) S := by
  simp only [fSl, asT, asL, h]
theorem law_many_spec {a b c d e f g h : D} {x1 x2 x3 x4 x5 x6 x7 x8 : List Int} (V : VRs S n [a, b, c, d, e, f, g, h] [x1, x2, x3, x4, x5, x6, x7, x8]) (hn1 : 1 ≤ n) (h12 : n ≤ 12) : f_law_many [.lst [a, b, c, d, e, f, g, h]] S = .ok (.bl true) S := by
  have e0 : env0 9 [.lst [a, b, c, d, e, f, g, h]] = [some (.lst [a, b, c, d, e, f, g, h]), none, none, none, none, none, none, none, none] := rfl
  have V4 : VRs S n [a, b, c, d] [x1, x2, x3, x4] := VRs.cons V.hd (VRs.cons V.tl.hd (VRs.cons V.tl.tl.hd (VRs.one V.tl.tl.tl.hd)))
  have c4 : cutD [a, b, c, d, e, f, g, h] none (some 4) = [a, b, c, d] := rfl
  have c8 : cutD [a, b, c, d, e, f, g, h] (some 4) none = [e, f, g, h] := rfl
  have sl4 : ∀ {l}, eSl (eVar 0) oNone (oSome (eC (.int 4))) (some (.lst [a, b, c, d, e, f, g, h]) :: l) S = .ok (.lst [a, b, c, d]) S := fun {l} => by
    rw [ap_eSl, var_lst rfl, bind_ok, ap_oNone, bind_ok, ap_oSome, ap_eC, bind_ok]
    exact sl_lst c4
  have sl8 : ∀ {l}, eSl (eVar 0) (oSome (eC (.int 4))) oNone (some (.lst [a, b, c, d, e, f, g, h]) :: l) S = .ok (.lst [e, f, g, h]) S := fun {l} => by
    rw [ap_eSl, var_lst rfl, bind_ok, ap_oSome, ap_eC, bind_ok]
    exact sl_lst c8
  obtain ⟨m, m1, m2, m3⟩ := col_same (S := S) (n := n) (F := lawF [x1, x2, x3, x4]) h12
  obtain ⟨j, j1, j2, j3⟩ := col_same (S := S) (n := n) (F := joinF x1 [x1, x2, x3, x4]) h12
  obtain ⟨p, p1, p2, p3⟩ := col_same (S := S) (n := n) (F := lawF [x1, x2, x3, x4, x5, x6, x7, x8]) h12
  obtain ⟨q, q1, q2, q3⟩ := col_same (S := S) (n := n) (F := joinF x1 [x1, x2, x3, x4, x5, x6, x7, x8]) h12
  have f1 := meet_valid V4 hn1 h12 (by simp)
  have f2 := lmeet_valid V4 h12
  have f3 := join_valid V4 hn1 h12 (by simp)
  have f4 := ljoin_valid V4 h12
  have f5 := meet_valid V hn1 h12 (by simp)
  have f6 := lmeet_valid V h12
  have f7 := join_valid V hn1 h12 (by simp)
  have f8 := ljoin_valid V h12
  rw [m1] at f1 f2
  rw [j1] at f3 f4
  rw [p1] at f5 f6
  rw [q1] at f7 f8
  have w1 : ∀ {x l}, eVar 1 (x :: some a :: l) S = .ok a S := fun {x l} => varQ rfl V.hd.rm.q
  have w2 : ∀ {x y l}, eVar 2 (x :: y :: some b :: l) S = .ok b S := fun {x y l} => varQ rfl V.tl.hd.rm.q
  have w3 : ∀ {x y z l}, eVar 3 (x :: y :: z :: some c :: l) S = .ok c S := fun {x y z l} => varQ rfl V.tl.tl.hd.rm.q
  have w4 : ∀ {x y z u l}, eVar 4 (x :: y :: z :: u :: some d :: l) S = .ok d S := fun {x y z u l} => varQ rfl V.tl.tl.tl.hd.rm.q
  have w5 : ∀ {x y z u v l}, eVar 5 (x :: y :: z :: u :: v :: some e :: l) S = .ok e S := fun {x y z u v l} => varQ rfl V.tl.tl.tl.tl.hd.rm.q
  have w6 : ∀ {x y z u v w l}, eVar 6 (x :: y :: z :: u :: v :: w :: some f :: l) S = .ok f S := fun {x y z u v w l} => varQ rfl V.tl.tl.tl.tl.tl.hd.rm.q
  have w7 : ∀ {x y z u v w r l}, eVar 7 (x :: y :: z :: u :: v :: w :: r :: some g :: l) S = .ok g S := fun {x y z u v w r l} => varQ rfl V.tl.tl.tl.tl.tl.tl.hd.rm.q
  have w8 : ∀ {x y z u v w r s l}, eVar 8 (x :: y :: z :: u :: v :: w :: r :: s :: some h :: l) S = .ok h S := fun {x y z u v w r s l} => varQ rfl V.tl.tl.tl.tl.tl.tl.tl.hd.rm.q
  have A4 : ∀ {x l}, aList [eVar 1, eVar 2, eVar 3, eVar 4] (x :: some a :: some b :: some c :: some d :: l) S = .ok [a, b, c, d] S := fun {x l} => by
    rw [ap_cons, w1, bind_ok, ap_cons, w2, bind_ok, ap_cons, w3, bind_ok, ap_cons, w4, bind_ok, ap_nil, bind_ok, bind_ok, bind_ok, bind_ok]
  have A8 : ∀ {x l}, aList [eVar 1, eVar 2, eVar 3, eVar 4, eVar 5, eVar 6, eVar 7, eVar 8] (x :: some a :: some b :: some c :: some d :: some e :: some f :: some g :: some h :: l) S = .ok [a, b, c, d, e, f, g, h] S := fun {x l} => by
    rw [ap_cons, w1, bind_ok, ap_cons, w2, bind_ok, ap_cons, w3, bind_ok, ap_cons, w4, bind_ok, ap_cons, w5, bind_ok, ap_cons, w6, bind_ok, ap_cons, w7, bind_ok, ap_cons, w8, bind_ok, ap_nil, bind_ok, bind_ok, bind_ok, bind_ok, bind_ok, bind_ok, bind_ok, bind_ok]
  have key : outR (b_law_many (env0 9 [.lst [a, b, c, d, e, f, g, h]]) S) = .ok (.bl true) S := by
    rw [e0]
    unfold b_law_many
    have t0 : sAsg (eSl (eVar 0) oNone (oSome (eC (.int 4)))) (gTupD 4 (gsCons (gVar 1) (gsCons (gVar 2) (gsCons (gVar 3) (gsCons (gVar 4) gsNil))))) [some (.lst [a, b, c, d, e, f, g, h]), none, none, none, none, none, none, none, none] S = .nx [some (.lst [a, b, c, d, e, f, g, h]), some a, some b, some c, some d, none, none, none, none] S := by
      rw [ap_sAsg, sl4]
      rfl
    have t1 : sAsg (eSl (eVar 0) (oSome (eC (.int 4))) oNone) (gTupD 4 (gsCons (gVar 5) (gsCons (gVar 6) (gsCons (gVar 7) (gsCons (gVar 8) gsNil))))) [some (.lst [a, b, c, d, e, f, g, h]), some a, some b, some c, some d, none, none, none, none] S = .nx [some (.lst [a, b, c, d, e, f, g, h]), some a, some b, some c, some d, some e, some f, some g, some h] S := by
      rw [ap_sAsg, sl8]
      rfl
    rw [seq_nx t0, seq_nx (chk_ok (app_ok A4 f1) (app_ok (args1 sl4) f2) m2), seq_nx (chk_ok (app_ok A4 f3) (app_ok (args1 sl4) f4) j2), seq_nx t1, seq_nx (chk_ok (app_ok A8 f5) (app_ok (args1 (var_lst rfl)) f6) p2),
      ap_sRet, app_ok (args2 (app_ok A8 f7) (app_ok (args1 (var_lst rfl)) f8)) q2]
    rfl
  exact defM_pure rfl key (resOk_v rfl)
end
end K02
/-! ## P02m -/
set_option Elab.async false
set_option linter.all false
set_option maxRecDepth 100000
set_option maxHeartbeats 1000000
namespace K02
open PySem PySem.Spec
open PyProof.Rows hiding St
open L2 EV0 EV
section
variable {S : Store}
theorem law_cell_spec {d : D} {ns : List Int} {k : Nat} (h : asQ S d = some (I ns)) : f_law_cell [d, .int (k : Nat)] S = .ok (.int (ns.getD k 0)) S := by
  have e0 : env0 2 [d, .int (k : Nat)] = [some d, some (.int (k : Nat))] := rfl
  have v0 : ∀ {l}, eVar 0 (some d :: l) S = .ok d S := fun {l} => varQ rfl h
  have key : outR (b_law_cell (env0 2 [d, .int (k : Nat)]) S) = .ok (.int (ns.getD k 0)) S := by
    rw [e0]
    unfold b_law_cell
    have t : bOf (eBin fLt (eVar 1) (eApp fLen [(eVar 0)])) [some d, some (.int (k : Nat))] S = .ok (decide ((k : Int) < ns.length)) S := by
      rw [ap_bOf, ap_eBin, var_int rfl, bind_ok, app_ok (args1 v0) (lenQ h), bind_ok, lt_ii, bind_ok]
    by_cases hk : k < ns.length
    · have s : sIf (bOf (eBin fLt (eVar 1) (eApp fLen [(eVar 0)]))) (sRet (eApp fInt [(eBin fIx (eVar 0) (eVar 1))])) sNext [some d, some (.int (k : Nat))] S = .rt (.int ns[k]) S := by
        rw [ap_sIf, t, R.then_ok, if_pos (by simpa using hk), ap_sRet]
        have : eBin fIx (eVar 0) (eVar 1) [some d, some (.int (k : Nat))] S = .ok (.int ns[k]) S := by
          rw [ap_eBin, v0, bind_ok, var_int rfl, bind_ok, ixI h hk]
        rw [app_ok (args1 this) int_i]
        rfl
      rw [ap_sSeq, s]
      simp [hk]
    · have s : sIf (bOf (eBin fLt (eVar 1) (eApp fLen [(eVar 0)]))) (sRet (eApp fInt [(eBin fIx (eVar 0) (eVar 1))])) sNext [some d, some (.int (k : Nat))] S = .nx [some d, some (.int (k : Nat))] S := by
        rw [ap_sIf, t, R.then_ok, if_neg (by simpa using hk)]
        rfl
      rw [seq_nx s, ap_sRet, ap_eC]
      simp [hk]
  exact defM_pure rfl key (resOk_v rfl)
/-! ### _law_draws -/
noncomputable abbrev drB : SM := (sIf (bOf (eBin fGe (eApp fAbs [(eVar 0)]) (eBin fPow (eC (.int 10)) (eC (.int 18))))) (sSeq (sExpr (eMeth2 (some fmAppend) none (eVar 3) [(eBin fMod (eApp fInt [(eVar 2)]) (eBin fIx (eVar 1) (eVar 4)))])) (sAsg (eBin fDiv (eVar 2) (eBin fIx (eVar 1) (eVar 4))) (gVar 2))) (sSeq (sAsg (eBin fMod (eApp fInt [(eBin fMul (eBin fMul (eBin fAdd (eBin fMod (eApp fInt [(eApp fAbs [(eVar 0)])]) (eC (.int 2147483647))) (eC (.int 1))) (eBin fAdd (eBin fMul (eC (.int 2)) (eVar 4)) (eC (.int 7)))) (eC (.int 48271)))]) (eC (.int 2147483647))) (gVar 5)) (sSeq (sAsg (eBin fMod (eApp fInt [(eBin fMul (eBin fAdd (eVar 5) (eVar 4)) (eBin fAdd (eVar 5) (eC (.int 69621))))]) (eC (.int 1000000007))) (gVar 5)) (sExpr (eMeth2 (some fmAppend) none (eVar 3) [(eBin fMod (eApp fInt [(eBin fDiv (eVar 5) (eC (.int 11)))]) (eBin fIx (eVar 1) (eVar 4)))])))))
/-- a turn puts a number below the size behind -/
theorem dr_turn {d : D} {ss : List Int} {c r : Int} {k : Nat} {ms : List Int} {o4 o5 : Option D} (h : asL S d = some (I ss)) (hk : k < ss.length) (hl : ss.length ≤ 1000) (hs : ∀ s ∈ ss, 0 < s ∧ s < 1000) (hm : ms.length ≤ 1000) :
    ∃ r' o5' v, 0 ≤ v ∧ v < ss[k] ∧ turnF (gVar 4) drB (.int (k : Nat)) [some (.int c), some d, some (.int r), some (.loc S.length), o4, o5] (S ++ [some (.lst (I ms))]) = .nx [some (.int c), some d, some (.int r'), some (.loc S.length), some (.int (k : Nat)), o5'] (S ++ [some (.lst (I (ms ++ [v])))]) := by
  obtain ⟨p1, p2⟩ := hs ss[k] (List.getElem_mem _)
  have hq : asQ (S ++ [some (.lst (I ms))]) d = some (I ss) := asQ_L (asL_app h)
  have v1 : ∀ {x l} {T : Store}, asQ T d = some (I ss) → eVar 1 (x :: some d :: l) T = .ok d T := fun {x l T} h => varQ rfl h
  have pt := fun {v} => put_last (S := S) (v := v) hm
  have hix := ixI hq hk
  have hl1 : asL (S ++ [some (.lst (I ms))]) (.loc S.length) = some (I ms) := asL_loc get_last
  have ml : ∀ {env mm}, env[3]? = some (some (.loc S.length)) → eMeth2 (some fmAppend) none (eVar 3) mm env (S ++ [some (.lst (I ms))]) = (aList mm env (S ++ [some (.lst (I ms))])).bind fun as S2 => fmAppend (.loc S.length) as S2 := fun {env mm} he => meth_L (ds := I ms) (by rw [var_loc he]) hl1
  generalize hS : S ++ [some (Cell.lst (I ms))] = S1 at *
  have g4 : gVar 4 (.int (k : Nat)) [some (.int c), some d, some (.int r), some (.loc S.length), o4, o5] S1 = .ok [some (.int c), some d, some (.int r), some (.loc S.length), some (.int (k : Nat)), o5] S1 := rfl
  have ab : ∀ {l}, eApp fAbs [(eVar 0)] (some (.int c) :: l) S1 = .ok (.int (if c < 0 then -c else c)) S1 := fun {l} => app_ok (args1 (var_int rfl)) abs_i
  generalize hac : (if c < 0 then -c else c) = ac at *
  have hac0 : 0 ≤ ac := by rw [← hac]; split <;> omega
  have sz : ∀ {l}, eBin fIx (eVar 1) (eVar 4) (some (.int c) :: some d :: some (.int r) :: some (.loc S.length) :: some (.int (k : Nat)) :: l) S1 = .ok (.int ss[k]) S1 := fun {l} => by
    rw [ap_eBin, v1 hq, bind_ok, var_int rfl, bind_ok, hix]
  have t : bOf (eBin fGe (eApp fAbs [(eVar 0)]) (eBin fPow (eC (.int 10)) (eC (.int 18)))) [some (.int c), some d, some (.int r), some (.loc S.length), some (.int (k : Nat)), o5] S1 = .ok (decide ((10 ^ 18 : Int) ≤ ac)) S1 := by
    have pw : fPow (.int 10) (.int 18) S1 = .ok (.int (10 ^ 18)) S1 := rfl
    rw [ap_bOf, ap_eBin, ab, bind_ok, ap_eBin, ap_eC, bind_ok, ap_eC, bind_ok, pw, bind_ok, ge_ii, bind_ok]
  have put : ∀ {A : EM} {env : EV.Env} {v : Int}, env[3]? = some (some (.loc S.length)) → A env S1 = .ok (.int v) S1 → sExpr (eMeth2 (some fmAppend) none (eVar 3) [A]) env S1 = .nx env (S ++ [some (.lst (I (ms ++ [v])))]) := fun {A env v} he hA => by
    rw [ap_sExpr, ml he, args1 hA, bind_ok, pt]
    rfl
  by_cases hc : (10 ^ 18 : Int) ≤ ac
  · refine ⟨r / ss[k], o5, r % ss[k], Int.emod_nonneg _ (by omega), Int.emod_lt_of_pos _ p1, ?_⟩
    rw [ap_turnF, g4]
    show drB _ _ = _
    unfold drB
    rw [ap_sIf, t, R.then_ok, if_pos (by simpa using hc)]
    have a1 : eBin fMod (eApp fInt [(eVar 2)]) (eBin fIx (eVar 1) (eVar 4)) [some (.int c), some d, some (.int r), some (.loc S.length), some (.int (k : Nat)), o5] S1 = .ok (.int (r % ss[k])) S1 := by
      rw [ap_eBin, app_ok (args1 (var_int rfl)) int_i, bind_ok, sz, bind_ok, mod_ii p1]
    rw [seq_nx (put rfl a1)]
    have hq2 : asQ (S ++ [some (.lst (I (ms ++ [r % ss[k]])))]) d = some (I ss) := asQ_L (asL_app h)
    rw [ap_sAsg, ap_eBin, var_int rfl, bind_ok, ap_eBin, v1 hq2, bind_ok, var_int rfl, bind_ok, ixI hq2 hk, bind_ok, div_ii p1 (by omega)]
    rfl
  · let m1 : Int := ((ac % 2147483647 + 1) * (2 * (k : Int) + 7) * 48271) % 2147483647
    let m2 : Int := ((m1 + k) * (m1 + 69621)) % 1000000007
    have b1 : 0 ≤ m1 ∧ m1 < 2147483647 := ⟨Int.emod_nonneg _ (by decide), Int.emod_lt_of_pos _ (by decide)⟩
    refine ⟨r, some (.int m2), (m2 / 11) % ss[k], Int.emod_nonneg _ (by omega), Int.emod_lt_of_pos _ p1, ?_⟩
    rw [ap_turnF, g4]
    show drB _ _ = _
    unfold drB
    rw [ap_sIf, t, R.then_ok, if_neg (by simpa using hc)]
    have a1 : eBin fMod (eApp fInt [(eBin fMul (eBin fMul (eBin fAdd (eBin fMod (eApp fInt [(eApp fAbs [(eVar 0)])]) (eC (.int 2147483647))) (eC (.int 1))) (eBin fAdd (eBin fMul (eC (.int 2)) (eVar 4)) (eC (.int 7)))) (eC (.int 48271)))]) (eC (.int 2147483647)) [some (.int c), some d, some (.int r), some (.loc S.length), some (.int (k : Nat)), o5] S1 = .ok (.int m1) S1 := by
      have q1 : eBin fMul (eBin fMul (eBin fAdd (eBin fMod (eApp fInt [(eApp fAbs [(eVar 0)])]) (eC (.int 2147483647))) (eC (.int 1))) (eBin fAdd (eBin fMul (eC (.int 2)) (eVar 4)) (eC (.int 7)))) (eC (.int 48271)) [some (.int c), some d, some (.int r), some (.loc S.length), some (.int (k : Nat)), o5] S1 = .ok (.int ((ac % 2147483647 + 1) * (2 * (k : Int) + 7) * 48271)) S1 := by
        rw [ap_eBin, ap_eBin, ap_eBin, ap_eBin, app_ok (args1 ab) int_i, bind_ok, ap_eC, bind_ok, mod_ii (by decide), bind_ok, ap_eC, bind_ok, add_ii, bind_ok, ap_eBin, ap_eBin, ap_eC, bind_ok, var_int rfl, bind_ok, mul_iL (by decide) (by decide), bind_ok, ap_eC, bind_ok, add_ii, bind_ok, mul_iR (by omega) (by omega), bind_ok, ap_eC, bind_ok, mul_iR (by decide) (by decide)]
      rw [ap_eBin, app_ok (args1 q1) int_i, bind_ok, ap_eC, bind_ok, mod_ii (by decide)]
    have s1 : sAsg (eBin fMod (eApp fInt [(eBin fMul (eBin fMul (eBin fAdd (eBin fMod (eApp fInt [(eApp fAbs [(eVar 0)])]) (eC (.int 2147483647))) (eC (.int 1))) (eBin fAdd (eBin fMul (eC (.int 2)) (eVar 4)) (eC (.int 7)))) (eC (.int 48271)))]) (eC (.int 2147483647))) (gVar 5) [some (.int c), some d, some (.int r), some (.loc S.length), some (.int (k : Nat)), o5] S1 = .nx [some (.int c), some d, some (.int r), some (.loc S.length), some (.int (k : Nat)), some (.int m1)] S1 := by
      rw [ap_sAsg, a1]
      rfl
    rw [seq_nx s1]
    have a2 : eBin fMod (eApp fInt [(eBin fMul (eBin fAdd (eVar 5) (eVar 4)) (eBin fAdd (eVar 5) (eC (.int 69621))))]) (eC (.int 1000000007)) [some (.int c), some d, some (.int r), some (.loc S.length), some (.int (k : Nat)), some (.int m1)] S1 = .ok (.int m2) S1 := by
      have q1 : eBin fMul (eBin fAdd (eVar 5) (eVar 4)) (eBin fAdd (eVar 5) (eC (.int 69621))) [some (.int c), some d, some (.int r), some (.loc S.length), some (.int (k : Nat)), some (.int m1)] S1 = .ok (.int ((m1 + k) * (m1 + 69621))) S1 := by
        rw [ap_eBin, ap_eBin, var_int rfl, bind_ok, var_int rfl, bind_ok, add_ii, bind_ok, ap_eBin, var_int rfl, bind_ok, ap_eC, bind_ok, add_ii, bind_ok, mul_iR (by omega) (by omega)]
      rw [ap_eBin, app_ok (args1 q1) int_i, bind_ok, ap_eC, bind_ok, mod_ii (by decide)]
    have s2 : sAsg (eBin fMod (eApp fInt [(eBin fMul (eBin fAdd (eVar 5) (eVar 4)) (eBin fAdd (eVar 5) (eC (.int 69621))))]) (eC (.int 1000000007))) (gVar 5) [some (.int c), some d, some (.int r), some (.loc S.length), some (.int (k : Nat)), some (.int m1)] S1 = .nx [some (.int c), some d, some (.int r), some (.loc S.length), some (.int (k : Nat)), some (.int m2)] S1 := by
      rw [ap_sAsg, a2]
      rfl
    rw [seq_nx s2]
    have a3 : eBin fMod (eApp fInt [(eBin fDiv (eVar 5) (eC (.int 11)))]) (eBin fIx (eVar 1) (eVar 4)) [some (.int c), some d, some (.int r), some (.loc S.length), some (.int (k : Nat)), some (.int m2)] S1 = .ok (.int ((m2 / 11) % ss[k])) S1 := by
      have q1 : eBin fDiv (eVar 5) (eC (.int 11)) [some (.int c), some d, some (.int r), some (.loc S.length), some (.int (k : Nat)), some (.int m2)] S1 = .ok (.int (m2 / 11)) S1 := by
        rw [ap_eBin, var_int rfl, bind_ok, ap_eC, bind_ok, div_ii (by decide) (by decide)]
      rw [ap_eBin, app_ok (args1 q1) int_i, bind_ok, sz, bind_ok, mod_ii p1]
    exact put rfl a3
end
end K02
/-! ## P02n -/
set_option Elab.async false
set_option linter.all false
set_option maxRecDepth 100000
set_option maxHeartbeats 1000000
namespace K02
open PySem PySem.Spec
open PyProof.Rows hiding St
open L2 EV0 EV
section
variable {S : Store}
/-- the numbers drawn, each below its size -/
def Drawn (ss vs : List Int) : Prop := vs.length = ss.length ∧ ∀ i (h : i < vs.length) (h' : i < ss.length), 0 ≤ vs[i] ∧ vs[i] < ss[i]
theorem dr_loop {d : D} {ss : List Int} {c : Int} (h : asL S d = some (I ss)) (hl : ss.length ≤ 900) (hs : ∀ s ∈ ss, 0 < s ∧ s < 1000) {it : ItS} (hi : it.g = []) : ∀ (m k : Nat), k + m = ss.length → ∀ {r : Int} {ms : List Int} {o4 o5 : Option D}, ms.length = k → (∀ i (h : i < ms.length) (h' : i < ss.length), 0 ≤ ms[i] ∧ ms[i] < ss[i]) →
    ∃ r' o4' o5' vs, Drawn ss vs ∧ loopF it (turnF (gVar 4) drB) sNext ((List.range' k m).map fun (k : Nat) => D.int k) [some (.int c), some d, some (.int r), some (.loc S.length), o4, o5] (S ++ [some (.lst (I ms))]) = .nx [some (.int c), some d, some (.int r'), some (.loc S.length), o4', o5'] (S ++ [some (.lst (I vs))]) := by
  intro m
  induction m with
  | zero =>
    intro k hk r ms o4 o5 hm hb
    refine ⟨r, o4, o5, ms, ⟨by omega, hb⟩, ?_⟩
    simp only [List.range'_zero, List.map_nil]
    rw [loop_nil (fun p hp => by rw [hi] at hp; cases hp)]
    rfl
  | succ m ih =>
    intro k hk r ms o4 o5 hm hb
    have hg : gOk (S ++ [some (.lst (I ms))]) it := fun p hp => by rw [hi] at hp; cases hp
    obtain ⟨r1, o51, v, p1, p2, t⟩ := dr_turn (S := S) (c := c) (r := r) (k := k) (ms := ms) (o4 := o4) (o5 := o5) h (by omega) (by omega) hs (by omega)
    obtain ⟨r', o4', o5', vs, q1, q2⟩ := ih (k + 1) (by omega) (r := r1) (ms := ms ++ [v]) (o4 := some (.int (k : Nat))) (o5 := o51) (by simp [hm]) (fun i h1 h2 => by
      by_cases hi : i < ms.length
      · rw [List.getElem_append_left hi]
        exact hb i hi h2
      · have e : i = ms.length := by simp at h1; omega
        subst e
        simp
        subst hm
        exact ⟨p1, p2⟩)
    refine ⟨r', o4', o5', vs, q1, ?_⟩
    rw [List.range'_succ, List.map_cons, loop_cons hg, t]
    exact q2
theorem law_draws_spec {d : D} {ss : List Int} {c : Int} (h : asL S d = some (I ss)) (hl : ss.length ≤ 900) (hs : ∀ s ∈ ss, 0 < s ∧ s < 1000) : ∃ vs, Drawn ss vs ∧ f_law_draws [.int c, d] S = .ok (.lst (I vs)) S := by
  have h1 : asL (S ++ [some (.lst [])]) d = some (I ss) := asL_app h
  have v1 : ∀ {x l} {T : Store}, asQ T d = some (I ss) → eVar 1 (x :: some d :: l) T = .ok d T := fun {x l T} h => varQ rfl h
  have e0 : env0 6 [.int c, d] = [some (.int c), some d, none, none, none, none] := rfl
  have ab : eApp fAbs [(eVar 0)] [some (.int c), some d, none, none, none, none] S = .ok (.int (if c < 0 then -c else c)) S := app_ok (args1 (var_int rfl)) abs_i
  generalize (if c < 0 then -c else c) = ac at ab
  have hr : iRange [eApp fLen [eVar 1]] [some (.int c), some d, some (.int ac), some (.loc S.length), none, none] (S ++ [some (.lst [])]) = .ok ⟨(List.range ss.length).map fun (k : Nat) => D.int k, []⟩ (S ++ [some (.lst [])]) := by
    have := range1 (m := eApp fLen [eVar 1]) (env := [some (.int c), some d, some (.int ac), some (.loc S.length), none, none]) (S0 := S ++ [some (.lst [])]) (S := S ++ [some (.lst [])]) (j := ss.length) (app_ok (args1 (v1 (asQ_L h1))) (lenQ (asQ_L h1))) (by omega) (by omega)
    simpa using this
  obtain ⟨r', o4', o5', vs, q1, q2⟩ := dr_loop (S := S) (c := c) h hl hs (it := ⟨(List.range ss.length).map fun (k : Nat) => D.int k, []⟩) rfl ss.length 0 (by omega) (r := ac) (ms := []) (o4 := none) (o5 := none) rfl (fun i h => by simp at h)
  rw [← List.range_eq_range'] at q2
  refine ⟨vs, q1, ?_⟩
  have key : outR (b_law_draws (env0 6 [.int c, d]) S) = .ok (.loc S.length) (S ++ [some (.lst (I vs))]) := by
    rw [e0]
    unfold b_law_draws
    have s1 : sAsg (eApp fAbs [(eVar 0)]) (gVar 2) [some (.int c), some d, none, none, none, none] S = .nx [some (.int c), some d, some (.int ac), none, none, none] S := by
      rw [ap_sAsg, ab]
      rfl
    have s2 : sAsg (eLst true []) (gVar 3) [some (.int c), some d, some (.int ac), none, none, none] S = .nx [some (.int c), some d, some (.int ac), some (.loc S.length), none, none] (S ++ [some (.lst [])]) := rfl
    have s3 : sFor (iRange [(eApp fLen [(eVar 1)])]) (gVar 4) drB sNext [some (.int c), some d, some (.int ac), some (.loc S.length), none, none] (S ++ [some (.lst [])]) = .nx [some (.int c), some d, some (.int r'), some (.loc S.length), o4', o5'] (S ++ [some (.lst (I vs))]) := by
      rw [ap_sFor, hr, R.then_ok]
      exact q2
    rw [seq_nx s1, seq_nx s2, seq_nx s3, ap_sRet, var_loc rfl]
    rfl
  exact defM_frz rfl key (Nat.le_refl _) get_last lb_ints
end
end K02
/-! ## P02o -/
set_option Elab.async false
set_option linter.all false
set_option maxRecDepth 100000
set_option maxHeartbeats 1000000
namespace K02
open PySem PySem.Spec
open PyProof.Rows hiding St
open L2 EV0 EV
/-! ### _law_outcome: what a call ends with -/
noncomputable abbrev ocH : List HdM := [⟨"BadRoom", some 2, (sSeq (sIf (bOr (bNot (bTru (eIsX (fun a b => txt.kt.lookup (a, b)) 2 "BadArgument"))) (bNot (bTru (eIsX (fun a b => txt.kt.lookup (a, b)) 2 "OldNewsError")))) (sRet (eTup [(eC (.str "other"))])) sNext) (sRet (eTup [(eC (.str "bad")), (eXf (fun a b => txt.xok.contains (a, b)) 2 "row")])))⟩, ⟨"TooLarge", some 2, (sSeq (sIf (bOr (bTru (eIsX (fun a b => txt.kt.lookup (a, b)) 2 "BadArgument")) (bNot (bTru (eIsX (fun a b => txt.kt.lookup (a, b)) 2 "OldNewsError")))) (sRet (eTup [(eC (.str "other"))])) sNext) (sRet (eTup [(eC (.str "large")), (eXf (fun a b => txt.xok.contains (a, b)) 2 "count"), (eXf (fun a b => txt.xok.contains (a, b)) 2 "limit")])))⟩]
def fineD : D := .tup [.str "fine"]
def badD (r : List Int) : D := .tup [.str "bad", .ktup (I r)]
def largeD (n : Int) : D := .tup [.str "large", .int n, .int 8]
section
variable {S : Store} {body : SM} {n1 n2 : D}
noncomputable abbrev ocT (body : SM) : SM := sSeq (sTry (fun a b => txt.ex.lookup (a, b)) body ocH) (sRet (eTup [(eC (.str "fine"))]))
theorem oc_fine (h : body [some n1, some n2, none] S = .nx [some n1, some n2, none] S) : ocT body [some n1, some n2, none] S = .rt fineD S := by
  unfold ocT
  rw [ap_sSeq]
  unfold sTry
  rw [h]
  rfl
theorem oc_bad {r : List Int} (h : body [some n1, some n2, none] S = .er (badR r) [some n1, some n2, none] S) : ocT body [some n1, some n2, none] S = .rt (badD r) S := by
  unfold ocT
  rw [ap_sSeq]
  unfold sTry
  rw [h]
  have e : handF (fun a b => txt.ex.lookup (a, b)) ocH (badR r) [some n1, some n2, none] S = .rt (badD r) S := by
    have l1 : txt.ex.lookup (("BadRoom" : PySem.Str), ("BadRoom" : PySem.Str)) = some true := by decide +kernel
    have k1 : txt.kt.lookup (("BadRoom" : PySem.Str), ("BadArgument" : PySem.Str)) = some true := by decide +kernel
    have k2 : txt.kt.lookup (("BadRoom" : PySem.Str), ("OldNewsError" : PySem.Str)) = some true := by decide +kernel
    have o1 : txt.xok.contains (("BadRoom" : PySem.Str), ("row" : PySem.Str)) = true := by decide +kernel
    simp only [ocH, handF, badR, l1, setF, List.set_cons_succ, List.set_cons_zero, ap_sSeq, ap_sIf, ap_bOr, ap_bNot, ap_bTru, eIsX, List.getElem?_cons_succ, List.getElem?_cons_zero, k1, k2, bind_ok, tru_b, Bool.not_true, Bool.false_eq_true, if_false, R.then_ok, ap_sNext, ap_sRet, ap_eTup, ap_cons, ap_nil, ap_eC, eXf, List.lookup_cons, o1]
    rfl
  dsimp only
  rw [e]
theorem oc_large {n : Int} (h : body [some n1, some n2, none] S = .er (large n) [some n1, some n2, none] S) : ocT body [some n1, some n2, none] S = .rt (largeD n) S := by
  unfold ocT
  rw [ap_sSeq]
  unfold sTry
  rw [h]
  have e : handF (fun a b => txt.ex.lookup (a, b)) ocH (large n) [some n1, some n2, none] S = .rt (largeD n) S := by
    have l0 : txt.ex.lookup (("TooLarge" : PySem.Str), ("BadRoom" : PySem.Str)) = some false := by decide +kernel
    have l1 : txt.ex.lookup (("TooLarge" : PySem.Str), ("TooLarge" : PySem.Str)) = some true := by decide +kernel
    have k1 : txt.kt.lookup (("TooLarge" : PySem.Str), ("BadArgument" : PySem.Str)) = some false := by decide +kernel
    have k2 : txt.kt.lookup (("TooLarge" : PySem.Str), ("OldNewsError" : PySem.Str)) = some true := by decide +kernel
    have o1 : txt.xok.contains (("TooLarge" : PySem.Str), ("count" : PySem.Str)) = true := by decide +kernel
    have o2 : txt.xok.contains (("TooLarge" : PySem.Str), ("limit" : PySem.Str)) = true := by decide +kernel
    simp only [ocH, handF, large, l0, l1, setF, List.set_cons_succ, List.set_cons_zero, ap_sSeq, ap_sIf, ap_bOr, ap_bNot, ap_bTru, eIsX, List.getElem?_cons_succ, List.getElem?_cons_zero, k1, k2, bind_ok, tru_b, Bool.not_true, Bool.false_eq_true, if_false, R.then_ok, ap_sNext, ap_sRet, ap_eTup, ap_cons, ap_nil, ap_eC, eXf, List.lookup_cons, o1, o2]
    rfl
  dsimp only
  rw [e]
end
end K02
/-! ## P02p -/
set_option Elab.async false
set_option linter.all false
set_option maxRecDepth 100000
set_option maxHeartbeats 1000000
namespace K02
open PySem PySem.Spec
open PyProof.Rows hiding St
open L2 EV0 EV
section
variable {S : Store} {env : EV.Env} {e : EM} {d : D}
theorem ex_ok (h : e env S = .ok d S) : sExpr e env S = .nx env S := by rw [ap_sExpr, h]; rfl
theorem ex_er {x : Ex} (h : e env S = .er x S) : sExpr e env S = .er x env S := by rw [ap_sExpr, h]; rfl
theorem eq_str {a b : PySem.Str} (ha : (PyData.str a).canLay0 = true) (hb : (PyData.str b).canLay0 = true) : fEq (.str a) (.str b) S = .ok (.bl (a == b)) S := by
  rw [fEq_py (p := .str a) (q := .str b) rfl rfl ha hb]
  rfl
/-- if name == 'z': a, else b -/
theorem pick {z : PySem.Str} {y : PySem.Str} {a b : SM} (h : env[0]? = some (some (.str y))) (ha : (PyData.str y).canLay0 = true) (hb : (PyData.str z).canLay0 = true) : sIf (bOf (eBin fEq (eVar 0) (eC (.str z)))) a b env S = if y == z then a env S else b env S := by
  rw [ap_sIf, ap_bOf, ap_eBin, var_str h, bind_ok, ap_eC, bind_ok, eq_str ha hb, bind_ok, R.then_ok]
/-- rooms[i] of a list that stands still -/
theorem item {ds : List D} {i : Nat} (h : env[1]? = some (some (.lst ds))) (hi : ds[i]? = some d) : eBin fIx (eVar 1) (eC (.int (i : Nat))) env S = .ok d S := by
  rw [ap_eBin, var_lst h, bind_ok, ap_eC, bind_ok, ix_Q (ds := ds) rfl hi]
end
end K02
/-! ## P02q -/
set_option Elab.async false
set_option linter.all false
set_option maxRecDepth 100000
set_option maxHeartbeats 1000000
namespace K02
open PySem PySem.Spec
open PyProof.Rows hiding St
open L2 EV0 EV
/-- what the first bad row of those asked says -/
def endOf : EV.R D → D
  | .ok _ _ => fineD
  | .er x _ => match x.fs with
    | [(_, .ktup r)] => .tup [.str "bad", .ktup r]
    | (_, n) :: _ => .tup [.str "large", n, .int 8]
    | [] => .non
  | .no => .non
section
variable {S : Store} {n1 n2 : D} {e : EM}
/-- a call whose result is fine, a bad row, too many -/
inductive Res (S : Store) : EV.R D → Prop
  | fine (d : D) : Res S (.ok d S)
  | bad (r : List Int) : Res S (.er (badR r) S)
  | large (n : Int) : Res S (.er (large n) S)
theorem oc_res {r : EV.R D} (hr : Res S r) (h : e [some n1, some n2, none] S = r) : ocT (sExpr e) [some n1, some n2, none] S = .rt (endOf r) S := by
  cases hr with
  | fine d => exact oc_fine (ex_ok h)
  | bad r => exact oc_bad (ex_er h)
  | large n => exact oc_large (ex_er h)
theorem cm_Res {f : Int → Int → Option Int} {xs : List Int} {rs : List (List Int)} : Res S (cmRes f xs rs S) := by
  unfold cmRes
  split
  · split
    · exact .bad _
    · split
      · exact .fine _
      · exact .fine _
  · exact .bad _
end
end K02
/-! ## P02r -/
set_option Elab.async false
set_option linter.all false
set_option maxRecDepth 100000
set_option maxHeartbeats 400000
namespace K02
open PySem PySem.Spec
open PyProof.Rows hiding St
open L2 EV0 EV
section
variable {S : Store}
/-- a def that changes one row's cell alone -/
theorem defM_cell {np n : Nat} {m : SM} {ds : List D} {l : Nat} {xs ys : List Int} (hn : ds.length = np) (hS : S[l]? = some (some (.lst (I xs)))) (h : outR (m (env0 n ds) S) = .ok .non (S.set l (some (.lst (I ys))))) : defM false np n m ds S = .ok .non (S.set l (some (.lst (I ys)))) := by
  refine defM_mut (g := []) hn (by rw [h, List.append_nil]) rfl (by simp) fun j hj => ?_
  rw [List.append_nil]
  by_cases e : l = j
  · subst e
    refine .inr fun c hc => ?_
    rw [List.getElem?_set_self hj] at hc
    cases hc
    exact lb_ints
  · exact .inl (List.getElem?_set_ne e)
end
end K02
/-! ## P02s -/
set_option Elab.async false
set_option linter.all false
set_option maxRecDepth 100000
set_option maxHeartbeats 400000
namespace K02
open PySem PySem.Spec
open PyProof.Rows hiding St
open L2 EV0 EV
def spoil (xs : List Int) (f : Int) (h : Nat) (m : Int) : List Int := if f = 0 then xs.set h (3 + m) else if f = 1 then xs.set h (-1 - m) else if f = 2 then xs ++ [m % 3] else if f = 3 then xs.dropLast else if f = 4 then [] else xs
section
variable {S : Store}
theorem pick_i {env : EV.Env} {i : Nat} {f z : Int} {a b : SM} (h : env[i]? = some (some (.int f))) : sIf (bOf (eBin fEq (eVar i) (eC (.int z)))) a b env S = if f = z then a env S else b env S := by
  rw [ap_sIf, ap_bOf, ap_eBin, var_int h, bind_ok, ap_eC, bind_ok, eq_ii, bind_ok, R.then_ok]
  by_cases q : f = z <;> simp [q]
theorem law_spoilt_spec {l : Nat} {xs : List Int} {f m : Int} {h : Nat} (hS : S[l]? = some (some (.lst (I xs)))) (hh : h < xs.length) (hz : xs.length ≤ 1000) : f_law_spoilt [.loc l, .int f, .int (h : Nat), .int m] S = .ok .non (S.set l (some (.lst (I (spoil xs f h m))))) := by
  refine defM_cell rfl hS ?_
  have e0 : env0 4 [.loc l, .int f, .int (h : Nat), .int m] = [some (.loc l), some (.int f), some (.int (h : Nat)), some (.int m)] := rfl
  rw [e0]
  unfold b_law_spoilt spoil
  have hl : asL S (.loc l) = some (I xs) := asL_loc hS
  have ml : ∀ {fm mm}, eMeth2 (some fm) none (eVar 0) mm [some (.loc l), some (.int f), some (.int (h : Nat)), some (.int m)] S = (aList mm [some (.loc l), some (.int f), some (.int (h : Nat)), some (.int m)] S).bind fun as S2 => fm (.loc l) as S2 := fun {fm mm} => meth_L (ds := I xs) (by rw [var_loc rfl]) hl
  have st : ∀ v : Int, gSubD (eVar 0) (eVar 2) (.int v) [some (.loc l), some (.int f), some (.int (h : Nat)), some (.int m)] S = .ok [some (.loc l), some (.int f), some (.int (h : Nat)), some (.int m)] (S.set l (some (.lst (I (xs.set h v))))) := fun v => by
    rw [ap_gSubD, var_loc rfl, bind_ok, var_int rfl, bind_ok, setI_loc hS (by simpa using hh)]
    simp
  rw [pick_i rfl]
  by_cases q0 : f = 0
  · rw [if_pos q0, if_pos q0, ap_sAsg, ap_eBin, ap_eC, bind_ok, var_int rfl, bind_ok, add_ii, R.then_ok, st]
    rfl
  rw [if_neg q0, if_neg q0, pick_i rfl]
  by_cases q1 : f = 1
  · rw [if_pos q1, if_pos q1, ap_sAsg, ap_eBin, ap_eUn, ap_eC, bind_ok, neg_i, bind_ok, var_int rfl, bind_ok, sub_ii, R.then_ok, st]
    rfl
  rw [if_neg q1, if_neg q1, pick_i rfl]
  by_cases q2 : f = 2
  · have a1 : eBin fMod (eApp fInt [(eVar 3)]) (eC (.int 3)) [some (.loc l), some (.int f), some (.int (h : Nat)), some (.int m)] S = .ok (.int (m % 3)) S := by
      rw [ap_eBin, app_ok (args1 (var_int rfl)) int_i, bind_ok, ap_eC, bind_ok, mod_ii (by decide)]
    rw [if_pos q2, if_pos q2, ap_sExpr, ml, args1 a1, bind_ok, append_loc hS (Nat.lt_of_lt_of_le (show (I xs).length < 100000 by simp; omega) (big_size (Nat.le_refl _)))]
    simp
  rw [if_neg q2, if_neg q2, pick_i rfl]
  by_cases q3 : f = 3
  · have pp : fmPop (.loc l) [] S = .ok (.int xs[xs.length - 1]) (S.set l (some (.lst (I xs.dropLast)))) := by
      simp only [fmPop, cellL_loc hS]
      have : (I xs)[(I xs).length - 1]? = some (.int xs[xs.length - 1]) := by simp
      rw [this]
      simp
    rw [if_pos q3, if_pos q3, ap_sExpr, ml, ap_nil, bind_ok, pp]
    rfl
  rw [if_neg q3, if_neg q3, pick_i rfl]
  by_cases q4 : f = 4
  · have pp : fmClear (.loc l) [] S = .ok .non (S.set l (some (.lst (I [])))) := by
      simp only [fmClear, cellL_loc hS]
      rfl
    rw [if_pos q4, if_pos q4, ap_sExpr, ml, ap_nil, bind_ok, pp]
    rfl
  rw [if_neg q4, if_neg q4, ap_sNext]
  have hl2 := (List.getElem?_eq_some_iff.mp hS)
  obtain ⟨w1, w2⟩ := hl2
  have e : S.set l (some (.lst (I xs))) = S := by
    rw [← w2]
    simp
  rw [e]
  rfl
end
end K02
/-! ## P02t -/
set_option Elab.async false
set_option linter.all false
set_option maxRecDepth 100000
set_option maxHeartbeats 1000000
namespace K02
open PySem PySem.Spec
open PyProof.Rows hiding St
open L2 EV0 EV
/-- the first bad row of those asked -/
def chk : List (List Int) → Option (List Int)
  | [] => none
  | x :: rs => if decide (1 ≤ x.length) && decide (x.length ≤ 12) then (x :: rs).find? (fun r => !okR x.length r) else some x
def ansD (o : Option (List Int)) : D := match o with
  | some r => badD r
  | none => fineD
def ansL (o : Option (List Int)) (n : Int) : D := match o with
  | some r => badD r
  | none => if 8 < n then largeD n else fineD
section
variable {S : Store} {n1 n2 d d1 d2 : D} {x x1 x2 : List Int}
theorem oc_body {body : SM} {e : EM} {r : EV.R D} (hb : body [some n1, some n2, none] S = sExpr e [some n1, some n2, none] S) (hr : Res S r) (h : e [some n1, some n2, none] S = r) : ocT body [some n1, some n2, none] S = .rt (endOf r) S := by
  rw [← oc_res hr h]
  unfold ocT
  rw [ap_sSeq, ap_sSeq]
  unfold sTry
  rw [hb]
theorem chk_cons {rs : List (List Int)} : chk (x :: rs) = if lone x then rs.find? (fun r => !okR x.length r) else some x := by
  unfold chk lone
  dsimp only
  by_cases h : decide (1 ≤ x.length) && decide (x.length ≤ 12)
  · rw [if_pos h, h, Bool.true_and, List.find?_cons]
    have : okR x.length x = x.all okM := by simp [okR]
    rw [this]
    cases x.all okM <;> simp
  · rw [if_neg h]
    simp at h
    rw [if_neg (by simp; intro a b; omega)]
theorem end_cm {f : Int → Int → Option Int} {rs : List (List Int)} : endOf (cmRes f x rs S) = ansD (chk (x :: rs)) := by
  rw [chk_cons]
  unfold cmRes ansD
  cases lone x with
  | false => rfl
  | true =>
    simp only [if_true]
    cases rs.find? (fun r => !okR x.length r) with
    | some r => rfl
    | none =>
      simp only
      cases (x :: rs).foldlM (crow f) x <;> rfl
theorem free_res (h : Rm S d x) : ∃ r, f_free_houses [d] S = r ∧ Res S r ∧ endOf r = ansD (chk [x]) := by
  refine ⟨_, free_houses_spec h, ?_, ?_⟩
  · cases lone x
    · exact .bad _
    · exact .fine _
  · rw [chk_cons]
    cases lone x <;> rfl
theorem states_res (h : Rm S d x) : ∃ r, f_states_of [d] S = r ∧ Res S r ∧ endOf r = ansL (chk [x]) (x.count 2 : Nat) := by
  refine ⟨_, states_of_spec h, ?_, ?_⟩
  · cases lone x
    · exact .bad _
    · simp only [if_true]
      split
      · exact .large _
      · exact .fine _
  · rw [chk_cons]
    cases lone x
    · rfl
    · simp only [if_true, List.find?_nil, ansL]
      split <;> rfl
theorem within_res (h : Rm S d1 x1) (h' : Rm S d2 x2) : ∃ r, f_lies_within [d1, d2] S = r ∧ Res S r ∧ endOf r = ansD (chk [x1, x2]) := by
  refine ⟨_, lies_within_spec h h', ?_, ?_⟩
  · cases lone x1
    · exact .bad _
    · simp only [if_true]
      split
      · exact .fine _
      · exact .bad _
  · rw [chk_cons]
    cases lone x1
    · rfl
    · simp only [if_true, List.find?_cons, List.find?_nil]
      cases okR x1.length x2 <;> rfl
theorem itemk {ds : List D} {e0 o2 : Option D} (i : Nat) (hi : ds[i]? = some d) : eBin fIx (eVar 1) (eC (.int (i : Nat))) [e0, some (.lst ds), o2] S = .ok d S := item rfl hi
theorem args6 {env : EV.Env} {a b c a' b' c' : EM} {x y z x' y' z' : D} (h1 : a env S = .ok x S) (h2 : b env S = .ok y S) (h3 : c env S = .ok z S) (h4 : a' env S = .ok x' S) (h5 : b' env S = .ok y' S) (h6 : c' env S = .ok z' S) : aList [a, b, c, a', b', c'] env S = .ok [x, y, z, x', y', z'] S := by
  rw [ap_cons, h1, bind_ok, ap_cons, h2, bind_ok, ap_cons, h3, bind_ok, ap_cons, h4, bind_ok, ap_cons, h5, bind_ok, ap_cons, h6, bind_ok, ap_nil, bind_ok, bind_ok, bind_ok, bind_ok, bind_ok, bind_ok]
theorem oc_def {z : PySem.Str} {ds : List D} {A : D} (h : outR (b_law_outcome [some (.str z), some (.lst ds), none] S) = .ok A S) (hA : lb S.length A = true) : f_law_outcome [.str z, .lst ds] S = .ok A S := defM_ok0 rfl h hA
theorem lb_badD {k : Nat} {r : List Int} : lb k (badD r) = true := by simp [badD, lb, lbL, lb_ints]
theorem lb_ansD {k : Nat} {o : Option (List Int)} : lb k (ansD o) = true := by
  cases o with
  | none => rfl
  | some r => exact lb_badD
theorem lb_ansL {k : Nat} {o : Option (List Int)} {n : Int} : lb k (ansL o n) = true := by
  cases o with
  | none => unfold ansL; simp only; split <;> rfl
  | some r => exact lb_badD
theorem can_s (s : String) (h : (PyData.str (PySem.Str.ofString s)).canLay0 = true) : (PyData.str (PySem.Str.ofString s)).canLay0 = true := h
end
end K02
/-! ## P02u -/
set_option Elab.async false
set_option linter.all false
set_option maxRecDepth 100000
set_option maxHeartbeats 1000000
namespace K02
open PySem PySem.Spec
open PyProof.Rows hiding St
open L2 EV0 EV
noncomputable abbrev ocB : SM := (sIf (bOf (eBin fEq (eVar 0) (eC (.str "free")))) (sExpr (eApp f_free_houses [(eBin fIx (eVar 1) (eC (.int 0)))])) (sIf (bOf (eBin fEq (eVar 0) (eC (.str "states")))) (sExpr (eApp f_states_of [(eBin fIx (eVar 1) (eC (.int 0)))])) (sIf (bOf (eBin fEq (eVar 0) (eC (.str "within")))) (sExpr (eApp f_lies_within [(eBin fIx (eVar 1) (eC (.int 0))), (eBin fIx (eVar 1) (eC (.int 1)))])) (sIf (bOf (eBin fEq (eVar 0) (eC (.str "meet")))) (sExpr (eApp f_meet [(eBin fIx (eVar 1) (eC (.int 0))), (eBin fIx (eVar 1) (eC (.int 1))), (eBin fIx (eVar 1) (eC (.int 2)))])) (sIf (bOf (eBin fEq (eVar 0) (eC (.str "join")))) (sExpr (eApp f_join [(eBin fIx (eVar 1) (eC (.int 0))), (eBin fIx (eVar 1) (eC (.int 1))), (eBin fIx (eVar 1) (eC (.int 2)))])) (sIf (bOf (eBin fEq (eVar 0) (eC (.str "late meet")))) (sExpr (eApp f_meet [(eBin fIx (eVar 1) (eC (.int 3))), (eBin fIx (eVar 1) (eC (.int 3))), (eBin fIx (eVar 1) (eC (.int 3))), (eBin fIx (eVar 1) (eC (.int 0))), (eBin fIx (eVar 1) (eC (.int 1))), (eBin fIx (eVar 1) (eC (.int 2)))])) (sExpr (eApp f_join [(eBin fIx (eVar 1) (eC (.int 3))), (eBin fIx (eVar 1) (eC (.int 3))), (eBin fIx (eVar 1) (eC (.int 3))), (eBin fIx (eVar 1) (eC (.int 0))), (eBin fIx (eVar 1) (eC (.int 1))), (eBin fIx (eVar 1) (eC (.int 2)))]))))))))
theorem cn1 : (PyData.str "free").canLay0 = true := by decide +kernel
theorem cn2 : (PyData.str "states").canLay0 = true := by decide +kernel
theorem cn3 : (PyData.str "within").canLay0 = true := by decide +kernel
theorem cn4 : (PyData.str "meet").canLay0 = true := by decide +kernel
theorem cn5 : (PyData.str "join").canLay0 = true := by decide +kernel
theorem cn6 : (PyData.str "late meet").canLay0 = true := by decide +kernel
theorem cn7 : (PyData.str "late join").canLay0 = true := by decide +kernel
section
variable {S : Store} {a b c d : D} {x1 x2 x3 x4 : List Int} {e1 e2 : Option D} {A B : SM} {y z : PySem.Str}
theorem pkT (h : (PyData.str z).canLay0 = true) : sIf (bOf (eBin fEq (eVar 0) (eC (.str z)))) A B (some (.str z) :: e) S = A (some (.str z) :: e) S := by
  rw [pick rfl h h, if_pos (by simp)]
theorem pkF (h : (PyData.str y).canLay0 = true) (h' : (PyData.str z).canLay0 = true) (ne : (y == z) = false) : sIf (bOf (eBin fEq (eVar 0) (eC (.str z)))) A B (some (.str y) :: e) S = B (some (.str y) :: e) S := by
  rw [pick rfl h h', if_neg (by simp [ne])]
theorem oc_free {ds : List D} (h1 : Rm S a x1) : f_law_outcome [.str "free", .lst (a :: ds)] S = .ok (ansD (chk [x1])) S := by
  obtain ⟨q, q1, q2, q3⟩ := free_res h1
  refine oc_def ?_ lb_ansD
  rw [← q3]
  show outR (ocT ocB [some (.str "free"), some (.lst (a :: ds)), none] S) = _
  rw [oc_body (e := eApp f_free_houses [(eBin fIx (eVar 1) (eC (.int 0)))]) ?_ q2 (app_ok (args1 (itemk 0 rfl)) q1)]
  · rfl
  · unfold ocB
    rw [pkT cn1]
theorem oc_states {ds : List D} (h1 : Rm S a x1) : f_law_outcome [.str "states", .lst (a :: ds)] S = .ok (ansL (chk [x1]) (x1.count 2 : Nat)) S := by
  obtain ⟨q, q1, q2, q3⟩ := states_res h1
  refine oc_def ?_ lb_ansL
  rw [← q3]
  show outR (ocT ocB [some (.str "states"), some (.lst (a :: ds)), none] S) = _
  rw [oc_body (e := eApp f_states_of [(eBin fIx (eVar 1) (eC (.int 0)))]) ?_ q2 (app_ok (args1 (itemk 0 rfl)) q1)]
  · rfl
  · unfold ocB
    rw [pkF cn2 cn1 (by decide +kernel), pkT cn2]
theorem oc_within {ds : List D} (h1 : Rm S a x1) (h2 : Rm S b x2) : f_law_outcome [.str "within", .lst (a :: b :: ds)] S = .ok (ansD (chk [x1, x2])) S := by
  obtain ⟨q, q1, q2, q3⟩ := within_res h1 h2
  refine oc_def ?_ lb_ansD
  rw [← q3]
  show outR (ocT ocB [some (.str "within"), some (.lst (a :: b :: ds)), none] S) = _
  rw [oc_body (e := eApp f_lies_within [(eBin fIx (eVar 1) (eC (.int 0))), (eBin fIx (eVar 1) (eC (.int 1)))]) ?_ q2 (app_ok (args2 (itemk 0 rfl) (itemk 1 rfl)) q1)]
  · rfl
  · unfold ocB
    rw [pkF cn3 cn1 (by decide +kernel), pkF cn3 cn2 (by decide +kernel), pkT cn3]
theorem oc_meet {ds : List D} (h1 : Rm S a x1) (h2 : Rm S b x2) (h3 : Rm S c x3) : f_law_outcome [.str "meet", .lst (a :: b :: c :: ds)] S = .ok (ansD (chk [x1, x2, x3])) S := by
  have q1 := meet_spec (es := [b, c]) (rs := [x2, x3]) h1 ⟨h2, h3, trivial⟩ (by simp)
  refine oc_def ?_ lb_ansD
  rw [← end_cm (S := S) (f := mt1)]
  show outR (ocT ocB [some (.str "meet"), some (.lst (a :: b :: c :: ds)), none] S) = _
  rw [oc_body (e := eApp f_meet [(eBin fIx (eVar 1) (eC (.int 0))), (eBin fIx (eVar 1) (eC (.int 1))), (eBin fIx (eVar 1) (eC (.int 2)))]) ?_ cm_Res (app_ok (args3 (itemk 0 rfl) (itemk 1 rfl) (itemk 2 rfl)) q1)]
  · rfl
  · unfold ocB
    rw [pkF cn4 cn1 (by decide +kernel), pkF cn4 cn2 (by decide +kernel), pkF cn4 cn3 (by decide +kernel), pkT cn4]
theorem oc_join {ds : List D} (h1 : Rm S a x1) (h2 : Rm S b x2) (h3 : Rm S c x3) : f_law_outcome [.str "join", .lst (a :: b :: c :: ds)] S = .ok (ansD (chk [x1, x2, x3])) S := by
  have q1 := join_spec (es := [b, c]) (rs := [x2, x3]) h1 ⟨h2, h3, trivial⟩ (by simp)
  refine oc_def ?_ lb_ansD
  rw [← end_cm (S := S) (f := jn1)]
  show outR (ocT ocB [some (.str "join"), some (.lst (a :: b :: c :: ds)), none] S) = _
  rw [oc_body (e := eApp f_join [(eBin fIx (eVar 1) (eC (.int 0))), (eBin fIx (eVar 1) (eC (.int 1))), (eBin fIx (eVar 1) (eC (.int 2)))]) ?_ cm_Res (app_ok (args3 (itemk 0 rfl) (itemk 1 rfl) (itemk 2 rfl)) q1)]
  · rfl
  · unfold ocB
    rw [pkF cn5 cn1 (by decide +kernel), pkF cn5 cn2 (by decide +kernel), pkF cn5 cn3 (by decide +kernel), pkF cn5 cn4 (by decide +kernel), pkT cn5]
theorem oc_lmeet {ds : List D} (h1 : Rm S a x1) (h2 : Rm S b x2) (h3 : Rm S c x3) (h4 : Rm S d x4) : f_law_outcome [.str "late meet", .lst (a :: b :: c :: d :: ds)] S = .ok (ansD (chk [x4, x4, x4, x1, x2, x3])) S := by
  have q1 := meet_spec (es := [d, d, a, b, c]) (rs := [x4, x4, x1, x2, x3]) h4 ⟨h4, h4, h1, h2, h3, trivial⟩ (by simp)
  refine oc_def ?_ lb_ansD
  rw [← end_cm (S := S) (f := mt1)]
  show outR (ocT ocB [some (.str "late meet"), some (.lst (a :: b :: c :: d :: ds)), none] S) = _
  rw [oc_body (e := eApp f_meet [(eBin fIx (eVar 1) (eC (.int 3))), (eBin fIx (eVar 1) (eC (.int 3))), (eBin fIx (eVar 1) (eC (.int 3))), (eBin fIx (eVar 1) (eC (.int 0))), (eBin fIx (eVar 1) (eC (.int 1))), (eBin fIx (eVar 1) (eC (.int 2)))]) ?_ cm_Res (app_ok (args6 (itemk 3 rfl) (itemk 3 rfl) (itemk 3 rfl) (itemk 0 rfl) (itemk 1 rfl) (itemk 2 rfl)) q1)]
  · rfl
  · unfold ocB
    rw [pkF cn6 cn1 (by decide +kernel), pkF cn6 cn2 (by decide +kernel), pkF cn6 cn3 (by decide +kernel), pkF cn6 cn4 (by decide +kernel), pkF cn6 cn5 (by decide +kernel), pkT cn6]
theorem oc_ljoin {ds : List D} (h1 : Rm S a x1) (h2 : Rm S b x2) (h3 : Rm S c x3) (h4 : Rm S d x4) : f_law_outcome [.str "late join", .lst (a :: b :: c :: d :: ds)] S = .ok (ansD (chk [x4, x4, x4, x1, x2, x3])) S := by
  have q1 := join_spec (es := [d, d, a, b, c]) (rs := [x4, x4, x1, x2, x3]) h4 ⟨h4, h4, h1, h2, h3, trivial⟩ (by simp)
  refine oc_def ?_ lb_ansD
  rw [← end_cm (S := S) (f := jn1)]
  show outR (ocT ocB [some (.str "late join"), some (.lst (a :: b :: c :: d :: ds)), none] S) = _
  rw [oc_body (e := eApp f_join [(eBin fIx (eVar 1) (eC (.int 3))), (eBin fIx (eVar 1) (eC (.int 3))), (eBin fIx (eVar 1) (eC (.int 3))), (eBin fIx (eVar 1) (eC (.int 0))), (eBin fIx (eVar 1) (eC (.int 1))), (eBin fIx (eVar 1) (eC (.int 2)))]) ?_ cm_Res (app_ok (args6 (itemk 3 rfl) (itemk 3 rfl) (itemk 3 rfl) (itemk 0 rfl) (itemk 1 rfl) (itemk 2 rfl)) q1)]
  · rfl
  · unfold ocB
    rw [pkF cn7 cn1 (by decide +kernel), pkF cn7 cn2 (by decide +kernel), pkF cn7 cn3 (by decide +kernel), pkF cn7 cn4 (by decide +kernel), pkF cn7 cn5 (by decide +kernel), pkF cn7 cn6 (by decide +kernel)]
end
end K02
/-! ## P02v -/
set_option Elab.async false
set_option linter.all false
set_option maxRecDepth 100000
set_option maxHeartbeats 1000000
namespace K02
open PySem PySem.Spec
open PyProof.Rows hiding St
open L2 EV0 EV
def cntD : D := .dct false [(.inl (.inr "free"), .int 1), (.inl (.inr "states"), .int 1), (.inl (.inr "within"), .int 2)]
noncomputable abbrev exL : SM := (sIf (bOr (bOf (eBin fNe (eApp fLen [(eVar 4)]) (eApp fLen [(eBin fIx (eVar 3) (eC (.int 0)))]))) (bTru (eComp false (iPlain (eVar 4)) (gVar 5) (bOf (eBin fNotIn (eVar 5) (eTup [(eC (.int 0)), (eC (.int 1)), (eC (.int 2))]))) (eVar 5) [5]))) (sRet (eTup [(eC (.str "bad")), (eApp fTupleK [(eVar 4)])])) sNext)
noncomputable abbrev exF : SM := (sSeq (sIf (bAnd (bOf (eBin fEq (eVar 0) (eC (.str "states")))) (bOf (eBin fGt (eMeth2 (some fmCountL) (some fmCountT) (eBin fIx (eVar 1) (eC (.int 0))) [(eC (.int 2))]) (eC (.int 8))))) (sRet (eTup [(eC (.str "large")), (eMeth2 (some fmCountL) (some fmCountT) (eBin fIx (eVar 1) (eC (.int 0))) [(eC (.int 2))]), (eC (.int 8))])) sNext) (sRet (eTup [(eC (.str "fine"))])))
noncomputable abbrev exT : SM := (sSeq (sIf (bOr (bOf (eBin fLt (eApp fLen [(eBin fIx (eVar 3) (eC (.int 0)))]) (eC (.int 1)))) (bOf (eBin fGt (eApp fLen [(eBin fIx (eVar 3) (eC (.int 0)))]) (eC (.int 12))))) (sRet (eTup [(eC (.str "bad")), (eApp fTupleK [(eBin fIx (eVar 3) (eC (.int 0)))])])) sNext) (sSeq (sFor (iPlain (eVar 3)) (gVar 4) exL sNext) exF))
section
variable {S : Store} {d : D} {x r : List Int} {e0 e1 e2 o4 o5 : Option D} {ds : List D}
theorem bad_marks (h : Rm S d r) {e3 : Option D} : eComp false (iPlain (eVar 4)) (gVar 5) (bOf (eBin fNotIn (eVar 5) (eTup [(eC (.int 0)), (eC (.int 1)), (eC (.int 2))]))) (eVar 5) [5] [e0, e1, e2, e3, some d, o5] S = .ok (.lst (I (r.filter fun m => !okM m))) S := by
  obtain ⟨g, i1, i2⟩ := h.iter
  have v4 : eVar 4 [e0, e1, e2, e3, some d, o5] S = .ok d S := varQ rfl h.q
  have c := comp_map (it := ⟨I r, g⟩) (S := S) (F := itemF (gVar 5) (bOf (eBin fNotIn (eVar 5) (eTup [(eC (.int 0)), (eC (.int 1)), (eC (.int 2))]))) (eVar 5) [e0, e1, e2, e3, some d, none]) D.int (fun m => if okM m then none else some (D.int m)) (l := r) i2 (fun m hm => by
    rw [ap_itemF]
    have g5 : gVar 5 (.int m) [e0, e1, e2, e3, some d, none] S = .ok [e0, e1, e2, e3, some d, some (.int m)] S := rfl
    rw [g5]
    dsimp only
    have t : bOf (eBin fNotIn (eVar 5) (eTup [(eC (.int 0)), (eC (.int 1)), (eC (.int 2))])) [e0, e1, e2, e3, some d, some (.int m)] S = .ok (!okM m) S := by
      rw [ap_bOf, ap_eBin, var_int rfl, bind_ok, ap_eTup, args3 ap_eC ap_eC ap_eC, bind_ok, bind_ok, mark_in, bind_ok]
    rw [t]
    cases okM m
    · show (EV.R.bind (eVar 5 _ S) _) = _
      rw [var_int rfl]
      rfl
    · rfl) (acc := [])
  have e : (r.filterMap fun m => if okM m then none else some (D.int m)) = I (r.filter fun m => !okM m) := by
    clear c i1 i2 h v4
    induction r with
    | nil => rfl
    | cons m r ih =>
      rw [List.filterMap_cons, List.filter_cons]
      cases q : okM m
      · simp [ih]
      · simp [ih]
  rw [e] at c
  rw [ap_eComp, ap_iPlain, v4, bind_ok, i1]
  dsimp only
  rw [bind_ok]
  have w : wipeE [e0, e1, e2, e3, some d, o5] [5] = [e0, e1, e2, e3, some d, none] := rfl
  rw [w]
  show (compF _ _ (I r) [] S).bind _ = _
  rw [c, bind_ok, mkL_f, List.nil_append]
theorem ex_chk (h : Rm S d r) {d0 : D} (h0 : Rm S d0 x) {as : List D} : if okR x.length r then exL [e0, e1, e2, some (.lst (d0 :: as)), some d, o5] S = .nx [e0, e1, e2, some (.lst (d0 :: as)), some d, o5] S else exL [e0, e1, e2, some (.lst (d0 :: as)), some d, o5] S = .rt (badD r) S := by
  have v4 : ∀ {l}, eVar 4 (e0 :: e1 :: e2 :: some (.lst (d0 :: as)) :: some d :: l) S = .ok d S := fun {l} => varQ rfl h.q
  have i0 : eBin fIx (eVar 3) (eC (.int 0)) [e0, e1, e2, some (.lst (d0 :: as)), some d, o5] S = .ok d0 S := by
    rw [ap_eBin, var_lst rfl, bind_ok, ap_eC, bind_ok]
    exact ix_Q (i := 0) (ds := d0 :: as) rfl rfl
  have t1 : bOf (eBin fNe (eApp fLen [(eVar 4)]) (eApp fLen [(eBin fIx (eVar 3) (eC (.int 0)))])) [e0, e1, e2, some (.lst (d0 :: as)), some d, o5] S = .ok (!decide ((r.length : Int) = x.length)) S := by
    rw [ap_bOf, ap_eBin, app_ok (args1 v4) (lenQ h.q), bind_ok, app_ok (args1 i0) (lenQ h0.q), bind_ok, ne_ii, bind_ok]
  have t2 : bTru (eComp false (iPlain (eVar 4)) (gVar 5) (bOf (eBin fNotIn (eVar 5) (eTup [(eC (.int 0)), (eC (.int 1)), (eC (.int 2))]))) (eVar 5) [5]) [e0, e1, e2, some (.lst (d0 :: as)), some d, o5] S = .ok (!(r.all okM)) S := by
    rw [ap_bTru, bad_marks h, bind_ok, tru_Q (ds := I (r.filter fun m => !okM m)) rfl]
    dsimp only
    congr 1
    have : (I (r.filter fun m => !okM m)).isEmpty = r.all okM := by
      rw [Bool.eq_iff_iff]
      simp
    rw [this]
  have key : exL [e0, e1, e2, some (.lst (d0 :: as)), some d, o5] S = if okR x.length r then .nx [e0, e1, e2, some (.lst (d0 :: as)), some d, o5] S else .rt (badD r) S := by
    unfold exL
    rw [ap_sIf, ap_bOr, t1, bind_ok]
    by_cases hl : r.length = x.length
    · have e : okR x.length r = r.all okM := by simp [okR, hl]
      have hl' : (!decide ((r.length : Int) = x.length)) = false := by simp; omega
      rw [hl', if_neg (show ¬ (false = true) by decide), t2, e, R.then_ok]
      cases r.all okM
      · simp only [Bool.not_false, if_true, Bool.false_eq_true, if_false]
        rw [ap_sRet, ap_eTup, args2 ap_eC (app_ok (args1 v4) h.tup)]
        rfl
      · rfl
    · have e : okR x.length r = false := by simp [okR, hl]
      have hl' : (!decide ((r.length : Int) = x.length)) = true := by simp; omega
      rw [hl', if_pos (show true = true from rfl), e, R.then_ok, if_pos (show true = true from rfl), ap_sRet, ap_eTup, args2 ap_eC (app_ok (args1 v4) h.tup)]
      rfl
  rw [key]
  cases okR x.length r <;> rfl
theorem find_snd {zs : List (D × List Int)} {q : List Int → Bool} : (zs.map (·.2)).find? q = (zs.find? fun p => q p.2).map (·.2) := by
  rw [List.find?_map]
  rfl
theorem exp_tail {as : List D} {d0 : D} {rs : List (List Int)} (h : Rws S (d0 :: as) (x :: rs)) {A : D} (hF : ∀ o4 o5, exF [e0, e1, e2, some (.lst (d0 :: as)), o4, o5] S = .rt A S) : exT [e0, e1, e2, some (.lst (d0 :: as)), none, none] S = .rt (match chk (x :: rs) with
    | some r => badD r
    | none => A) S := by
  have i0 : eBin fIx (eVar 3) (eC (.int 0)) [e0, e1, e2, some (.lst (d0 :: as)), none, none] S = .ok d0 S := by
    rw [ap_eBin, var_lst rfl, bind_ok, ap_eC, bind_ok]
    exact ix_Q (i := 0) (ds := d0 :: as) rfl rfl
  have h0 : Rm S d0 x := h.1
  have t1 : bOr (bOf (eBin fLt (eApp fLen [(eBin fIx (eVar 3) (eC (.int 0)))]) (eC (.int 1)))) (bOf (eBin fGt (eApp fLen [(eBin fIx (eVar 3) (eC (.int 0)))]) (eC (.int 12)))) [e0, e1, e2, some (.lst (d0 :: as)), none, none] S = .ok (!(decide (1 ≤ x.length) && decide (x.length ≤ 12))) S := by
    rw [ap_bOr, ap_bOf, ap_eBin, app_ok (args1 i0) (lenQ h0.q), bind_ok, ap_eC, bind_ok, lt_ii, bind_ok, bind_ok]
    by_cases q : x.length = 0
    · rw [if_pos (by simp [q])]
      simp [q]
    · rw [if_neg (by simp; omega), ap_bOf, ap_eBin, app_ok (args1 i0) (lenQ h0.q), bind_ok, ap_eC, bind_ok, gt_ii, bind_ok]
      congr 1
      by_cases q2 : x.length ≤ 12
      · have : 1 ≤ x.length := by omega
        have : ¬ (12 : Int) < x.length := by omega
        simp [*]
      · have : (12 : Int) < x.length := by omega
        simp [*]
  have ck : chk (x :: rs) = if decide (1 ≤ x.length) && decide (x.length ≤ 12) then (x :: rs).find? (fun r => !okR x.length r) else some x := rfl
  rw [ck]
  unfold exT
  by_cases hl : decide (1 ≤ x.length) && decide (x.length ≤ 12)
  · rw [if_pos hl]
    have s1 : sIf (bOr (bOf (eBin fLt (eApp fLen [(eBin fIx (eVar 3) (eC (.int 0)))]) (eC (.int 1)))) (bOf (eBin fGt (eApp fLen [(eBin fIx (eVar 3) (eC (.int 0)))]) (eC (.int 12))))) (sRet (eTup [(eC (.str "bad")), (eApp fTupleK [(eBin fIx (eVar 3) (eC (.int 0)))])])) sNext [e0, e1, e2, some (.lst (d0 :: as)), none, none] S = .nx [e0, e1, e2, some (.lst (d0 :: as)), none, none] S := by
      rw [ap_sIf, t1, R.then_ok, hl]
      rfl
    rw [seq_nx s1]
    obtain ⟨z1, z2, z3⟩ := h.zip
    have L := loop_chk (it := ⟨d0 :: as, []⟩) (S := S) (els := sNext) (body := turnF (gVar 4) exL)
      (P := fun env => ∃ o4 o5, env = [e0, e1, e2, some (.lst (d0 :: as)), o4, o5]) (l := (d0 :: as).zip (x :: rs)) (fun p => p.1) (fun p => okR x.length p.2) (fun p o => o = .rt (badD p.2) S) gOk_nils (fun p o e => .inl ⟨_, _, e⟩)
      (fun env p ⟨o4, o5, e⟩ hp => by
        subst e
        have rm := z3 p hp
        have c := ex_chk (e0 := e0) (e1 := e1) (e2 := e2) (o5 := o5) rm h0 (as := as)
        have g4 : gVar 4 p.1 [e0, e1, e2, some (.lst (d0 :: as)), o4, o5] S = .ok [e0, e1, e2, some (.lst (d0 :: as)), some p.1, o5] S := rfl
        rw [ap_turnF, g4]
        cases q : okR x.length p.2
        · rw [q] at c
          exact c
        · rw [q] at c
          exact ⟨_, c, _, _, rfl⟩) ⟨none, none, rfl⟩
    rw [← z1] at L
    have ef : (x :: rs).find? (fun r => !okR x.length r) = (((d0 :: as).zip (x :: rs)).find? (fun p => !okR x.length p.2)).map (·.2) := by
      conv => lhs; rw [z2]
      exact find_snd
    have hi : iPlain (eVar 3) [e0, e1, e2, some (.lst (d0 :: as)), none, none] S = .ok ⟨d0 :: as, []⟩ S := by
      rw [ap_iPlain, var_lst rfl, bind_ok]
      rfl
    rw [ef]
    cases q1 : ((d0 :: as).zip (x :: rs)).find? (fun p => !okR x.length p.2) with
    | none =>
      rw [q1] at L
      obtain ⟨env', ⟨o4, o5, rfl⟩, q⟩ := L
      have s2 : sFor (iPlain (eVar 3)) (gVar 4) exL sNext [e0, e1, e2, some (.lst (d0 :: as)), none, none] S = .nx [e0, e1, e2, some (.lst (d0 :: as)), o4, o5] S := by
        rw [ap_sFor, hi, R.then_ok]
        exact q
      rw [seq_nx s2]
      exact hF o4 o5
    | some p =>
      rw [q1] at L
      have s2 : sFor (iPlain (eVar 3)) (gVar 4) exL sNext [e0, e1, e2, some (.lst (d0 :: as)), none, none] S = .rt (badD p.2) S := by
        rw [ap_sFor, hi, R.then_ok]
        exact L
      rw [ap_sSeq, s2]
      rfl
  · rw [if_neg hl]
    have s1 : sIf (bOr (bOf (eBin fLt (eApp fLen [(eBin fIx (eVar 3) (eC (.int 0)))]) (eC (.int 1)))) (bOf (eBin fGt (eApp fLen [(eBin fIx (eVar 3) (eC (.int 0)))]) (eC (.int 12))))) (sRet (eTup [(eC (.str "bad")), (eApp fTupleK [(eBin fIx (eVar 3) (eC (.int 0)))])])) sNext [e0, e1, e2, some (.lst (d0 :: as)), none, none] S = .rt (badD x) S := by
      rw [ap_sIf, t1, R.then_ok, Bool.eq_false_iff.mpr hl, if_pos (show (!false) = true from rfl), ap_sRet, ap_eTup, args2 ap_eC (app_ok (args1 i0) h0.tup)]
      rfl
    rw [ap_sSeq, s1]
end
end K02
/-! ## P02w -/
set_option Elab.async false
set_option linter.all false
set_option maxRecDepth 100000
set_option maxHeartbeats 1000000
namespace K02
open PySem PySem.Spec
open PyProof.Rows hiding St
open L2 EV0 EV
section
variable {S : Store} {a b c d : D} {x1 x2 x3 x4 : List Int} {z : PySem.Str} {e : EV.Env}
theorem ex_1 {ds : List D} : sAsg (eDictN false [((eC (.str "free")), (eC (.int 1))), ((eC (.str "states")), (eC (.int 1))), ((eC (.str "within")), (eC (.int 2)))]) (gVar 2) [some (.str z), some (.lst ds), none, none, none, none] S = .nx [some (.str z), some (.lst ds), some cntD, none, none, none] S := by kernel_rfl
def kOf (z : PySem.Str) : Int := match dFind [((.inl (.inr "free") : DKey), D.int 1), (.inl (.inr "states"), .int 1), (.inl (.inr "within"), .int 2)] (.inl (.inr z)) with
  | some (.int k) => k
  | _ => 3
theorem ex_2 {k : Int} {as : List D} (hk : ((dFind [((.inl (.inr "free") : DKey), D.int 1), (.inl (.inr "states"), .int 1), (.inl (.inr "within"), .int 2)] (.inl (.inr z))).getD (.int 3)) = .int k) {ds : List D} (hc : cutD ds none (some k) = as) : sAsg (eSl (eVar 1) oNone (oSome (eGet2 (eVar 2) (eVar 0) (eC (.int 3))))) (gVar 3) [some (.str z), some (.lst ds), some cntD, none, none, none] S = .nx [some (.str z), some (.lst ds), some cntD, some (.lst as), none, none] S := by
  have g : eGet2 (eVar 2) (eVar 0) (eC (.int 3)) [some (.str z), some (.lst ds), some cntD, none, none, none] S = .ok (.int k) S := by
    have : eGet2 (eVar 2) (eVar 0) (eC (.int 3)) [some (.str z), some (.lst ds), some cntD, none, none, none] S = .ok ((dFind [((.inl (.inr "free") : DKey), D.int 1), (.inl (.inr "states"), .int 1), (.inl (.inr "within"), .int 2)] (.inl (.inr z))).getD (.int 3)) S := rfl
    rw [this, hk]
  rw [ap_sAsg, ap_eSl, var_lst rfl, bind_ok, ap_oNone, bind_ok, ap_oSome, g, bind_ok]
  show (EV.R.bind (EV.R.ok (some k) S) _).then _ _ = _
  rw [bind_ok, sl_lst hc]
  rfl
theorem ex_3F {ds as : List D} (h : ([D.str "late meet", D.str "late join"].any fun y => eqFl y (.str z)) = false) {B : SM} : sIf (bOf (eBin fIn (eVar 0) (eTup [(eC (.str "late meet")), (eC (.str "late join"))]))) B sNext [some (.str z), some (.lst ds), some cntD, some (.lst as), none, none] S = .nx [some (.str z), some (.lst ds), some cntD, some (.lst as), none, none] S := by
  rw [ap_sIf, ap_bOf, ap_eBin, var_str rfl, bind_ok, ap_eTup, args2 ap_eC ap_eC, bind_ok, bind_ok, in_flat (ds := [.str "late meet", .str "late join"]) rfl rfl rfl rfl, bind_ok, h]
  rfl
theorem ex_3T {as : List D} (h : ([D.str "late meet", D.str "late join"].any fun y => eqFl y (.str z)) = true) : sIf (bOf (eBin fIn (eVar 0) (eTup [(eC (.str "late meet")), (eC (.str "late join"))]))) (sAsg (eLst false [(eBin fIx (eVar 1) (eC (.int 3))), (eBin fIx (eVar 1) (eC (.int 3))), (eBin fIx (eVar 1) (eC (.int 3))), (eBin fIx (eVar 1) (eC (.int 0))), (eBin fIx (eVar 1) (eC (.int 1))), (eBin fIx (eVar 1) (eC (.int 2)))]) (gVar 3)) sNext [some (.str z), some (.lst [a, b, c, d]), some cntD, some (.lst as), none, none] S = .nx [some (.str z), some (.lst [a, b, c, d]), some cntD, some (.lst [d, d, d, a, b, c]), none, none] S := by
  have i : ∀ (i : Nat) (j : Int) {q : D}, j = (i : Nat) → [a, b, c, d][i]? = some q → eBin fIx (eVar 1) (eC (.int j)) [some (.str z), some (.lst [a, b, c, d]), some cntD, some (.lst as), none, none] S = .ok q S := fun i j q hj hi => by
    rw [hj]
    exact item rfl hi
  have t : bOf (eBin fIn (eVar 0) (eTup [(eC (.str "late meet")), (eC (.str "late join"))])) [some (.str z), some (.lst [a, b, c, d]), some cntD, some (.lst as), none, none] S = .ok true S := by
    rw [ap_bOf, ap_eBin, var_str rfl, bind_ok, ap_eTup, args2 ap_eC ap_eC, bind_ok, bind_ok, in_flat (ds := [.str "late meet", .str "late join"]) rfl rfl rfl rfl, bind_ok, h]
  rw [ap_sIf, t, R.then_ok, if_pos (show true = true from rfl), ap_sAsg, lst_ok (args6 (i 3 3 rfl rfl) (i 3 3 rfl rfl) (i 3 3 rfl rfl) (i 0 0 rfl rfl) (i 1 1 rfl rfl) (i 2 2 rfl rfl))]
  rfl
theorem ex_def {A : D} {ds : List D} (hA : lb S.length A = true) (h : outR (b_law_expected [some (.str z), some (.lst ds), none, none, none, none] S) = .ok A S) : f_law_expected [.str z, .lst ds] S = .ok A S := defM_ok0 rfl h hA
/-- a name that is not 'states': fine at the end -/
theorem exF_other {ds : List D} {e2 e3 o4 o5 : Option D} (hz : (PyData.str z).canLay0 = true) (h : (z == "states") = false) : exF [some (.str z), some (.lst ds), e2, e3, o4, o5] S = .rt fineD S := by
  have t : bAnd (bOf (eBin fEq (eVar 0) (eC (.str "states")))) (bOf (eBin fGt (eMeth2 (some fmCountL) (some fmCountT) (eBin fIx (eVar 1) (eC (.int 0))) [(eC (.int 2))]) (eC (.int 8)))) [some (.str z), some (.lst ds), e2, e3, o4, o5] S = .ok false S := by
    rw [ap_bAnd, ap_bOf, ap_eBin, var_str rfl, bind_ok, ap_eC, bind_ok, eq_str hz cn2, bind_ok, h, bind_ok, if_neg (by decide)]
  unfold exF
  rw [seq_nx (env' := [some (.str z), some (.lst ds), e2, e3, o4, o5]) (S' := S) (by rw [ap_sIf, t]; rfl)]
  rfl
theorem exF_states {ds : List D} {e2 e3 o4 o5 : Option D} (h1 : asL S a = some (I x1)) : exF [some (.str "states"), some (.lst (a :: ds)), e2, e3, o4, o5] S = .rt (if 8 < ((x1.count 2 : Nat) : Int) then largeD (x1.count 2 : Nat) else fineD) S := by
  have c : eMeth2 (some fmCountL) (some fmCountT) (eBin fIx (eVar 1) (eC (.int 0))) [(eC (.int 2))] [some (.str "states"), some (.lst (a :: ds)), e2, e3, o4, o5] S = .ok (.int (x1.count 2 : Nat)) S := by
    have i0 : eBin fIx (eVar 1) (eC (.int 0)) [some (.str "states"), some (.lst (a :: ds)), e2, e3, o4, o5] S = .ok a S := item (i := 0) (ds := a :: ds) rfl rfl
    rw [meth_L (S := S) i0 h1, args1 ap_eC, bind_ok, countL_ints h1]
  have t : bAnd (bOf (eBin fEq (eVar 0) (eC (.str "states")))) (bOf (eBin fGt (eMeth2 (some fmCountL) (some fmCountT) (eBin fIx (eVar 1) (eC (.int 0))) [(eC (.int 2))]) (eC (.int 8)))) [some (.str "states"), some (.lst (a :: ds)), e2, e3, o4, o5] S = .ok (decide (8 < ((x1.count 2 : Nat) : Int))) S := by
    rw [ap_bAnd, ap_bOf, ap_eBin, var_str rfl, bind_ok, ap_eC, bind_ok, eq_str cn2 cn2, bind_ok, bind_ok, if_pos (by simp), ap_bOf, ap_eBin, c, bind_ok, ap_eC, bind_ok, gt_ii, bind_ok]
  unfold exF
  by_cases q : 8 < ((x1.count 2 : Nat) : Int)
  · rw [if_pos q, ap_sSeq, ap_sIf, t, R.then_ok, if_pos (by simpa using q), ap_sRet, ap_eTup, args3 ap_eC c ap_eC]
    rfl
  · rw [if_neg q, seq_nx (env' := [some (.str "states"), some (.lst (a :: ds)), e2, e3, o4, o5]) (S' := S) (by rw [ap_sIf, t, R.then_ok, if_neg (by simpa using q)]; rfl)]
    rfl
theorem ex_main {A : D} {as : List D} {d0 : D} {x : List Int} {rs : List (List Int)} {k : Int} {as0 : List D} (hk : ((dFind [((.inl (.inr "free") : DKey), D.int 1), (.inl (.inr "states"), .int 1), (.inl (.inr "within"), .int 2)] (.inl (.inr z))).getD (.int 3)) = .int k) (hc : cutD [a, b, c, d] none (some k) = as0)
    (h3 : sIf (bOf (eBin fIn (eVar 0) (eTup [(eC (.str "late meet")), (eC (.str "late join"))]))) (sAsg (eLst false [(eBin fIx (eVar 1) (eC (.int 3))), (eBin fIx (eVar 1) (eC (.int 3))), (eBin fIx (eVar 1) (eC (.int 3))), (eBin fIx (eVar 1) (eC (.int 0))), (eBin fIx (eVar 1) (eC (.int 1))), (eBin fIx (eVar 1) (eC (.int 2)))]) (gVar 3)) sNext [some (.str z), some (.lst [a, b, c, d]), some cntD, some (.lst as0), none, none] S = .nx [some (.str z), some (.lst [a, b, c, d]), some cntD, some (.lst (d0 :: as)), none, none] S)
    (hr : Rws S (d0 :: as) (x :: rs)) (hF : ∀ o4 o5, exF [some (.str z), some (.lst [a, b, c, d]), some cntD, some (.lst (d0 :: as)), o4, o5] S = .rt A S) (hA : lb S.length A = true) : f_law_expected [.str z, .lst [a, b, c, d]] S = .ok (match chk (x :: rs) with
    | some r => badD r
    | none => A) S := by
  refine ex_def (by split <;> first | exact lb_badD | exact hA) ?_
  unfold b_law_expected
  rw [seq_nx ex_1, seq_nx (ex_2 hk hc), seq_nx h3]
  show outR (exT _ S) = _
  rw [exp_tail hr hF]
  rfl
theorem exp_free (h1 : Rm S a x1) : f_law_expected [.str "free", .lst [a, b, c, d]] S = .ok (ansD (chk [x1])) S :=
  ex_main (k := 1) (as0 := [a]) (by kernel_rfl) rfl (ex_3F (by decide +kernel)) (x := x1) (rs := []) ⟨h1, trivial⟩ (fun _ _ => exF_other cn1 (by decide +kernel)) rfl
theorem exp_states (h1 : asL S a = some (I x1)) : f_law_expected [.str "states", .lst [a, b, c, d]] S = .ok (ansL (chk [x1]) (x1.count 2 : Nat)) S :=
  ex_main (k := 1) (as0 := [a]) (by kernel_rfl) rfl (ex_3F (by decide +kernel)) (x := x1) (rs := []) ⟨.inl h1, trivial⟩ (fun _ _ => exF_states h1) (by split <;> rfl)
theorem exp_within (h1 : Rm S a x1) (h2 : Rm S b x2) : f_law_expected [.str "within", .lst [a, b, c, d]] S = .ok (ansD (chk [x1, x2])) S :=
  ex_main (k := 2) (as0 := [a, b]) (by kernel_rfl) rfl (ex_3F (by decide +kernel)) (x := x1) (rs := [x2]) ⟨h1, h2, trivial⟩ (fun _ _ => exF_other cn3 (by decide +kernel)) rfl
theorem exp_meet (h1 : Rm S a x1) (h2 : Rm S b x2) (h3 : Rm S c x3) : f_law_expected [.str "meet", .lst [a, b, c, d]] S = .ok (ansD (chk [x1, x2, x3])) S :=
  ex_main (k := 3) (as0 := [a, b, c]) (by kernel_rfl) rfl (ex_3F (by decide +kernel)) (x := x1) (rs := [x2, x3]) ⟨h1, h2, h3, trivial⟩ (fun _ _ => exF_other cn4 (by decide +kernel)) rfl
theorem exp_join (h1 : Rm S a x1) (h2 : Rm S b x2) (h3 : Rm S c x3) : f_law_expected [.str "join", .lst [a, b, c, d]] S = .ok (ansD (chk [x1, x2, x3])) S :=
  ex_main (k := 3) (as0 := [a, b, c]) (by kernel_rfl) rfl (ex_3F (by decide +kernel)) (x := x1) (rs := [x2, x3]) ⟨h1, h2, h3, trivial⟩ (fun _ _ => exF_other cn5 (by decide +kernel)) rfl
theorem exp_lmeet (h1 : Rm S a x1) (h2 : Rm S b x2) (h3 : Rm S c x3) (h4 : Rm S d x4) : f_law_expected [.str "late meet", .lst [a, b, c, d]] S = .ok (ansD (chk [x4, x4, x4, x1, x2, x3])) S :=
  ex_main (k := 3) (as0 := [a, b, c]) (by kernel_rfl) rfl (ex_3T (by decide +kernel)) (x := x4) (rs := [x4, x4, x1, x2, x3]) ⟨h4, h4, h4, h1, h2, h3, trivial⟩ (fun _ _ => exF_other cn6 (by decide +kernel)) rfl
theorem exp_ljoin (h1 : Rm S a x1) (h2 : Rm S b x2) (h3 : Rm S c x3) (h4 : Rm S d x4) : f_law_expected [.str "late join", .lst [a, b, c, d]] S = .ok (ansD (chk [x4, x4, x4, x1, x2, x3])) S :=
  ex_main (k := 3) (as0 := [a, b, c]) (by kernel_rfl) rfl (ex_3T (by decide +kernel)) (x := x4) (rs := [x4, x4, x1, x2, x3]) ⟨h4, h4, h4, h1, h2, h3, trivial⟩ (fun _ _ => exF_other cn7 (by decide +kernel)) rfl
/-! ### the answers as data -/
theorem py_ans {n : Nat} {r : List Int} : toPy S (n + 3) (badD r) = some (.tuple [.str "bad", .tuple (r.map .int)]) := by
  simp only [badD, toPy, mapO]
  rw [show mapO (toPy S (n + 1)) (I r) = some (r.map .int) from py_ints]
  rfl
theorem cnb : (PyData.str "bad").canLay0 = true := by decide +kernel
theorem cnl : (PyData.str "large").canLay0 = true := by decide +kernel
theorem cnf : (PyData.str "fine").canLay0 = true := by decide +kernel
theorem ans_ne {o : Option (List Int)} {A : D} (h : ∃ p, toPy S dpt A = some p ∧ p.canLay0 = true) : fNe A A S = .ok (.bl false) S := by
  obtain ⟨p, h1, h2⟩ := h
  rw [fNe_py h1 h1 h2 h2, eqv_refl h2]
  rfl
theorem py_bad {r : List Int} : ∃ p, toPy S dpt (badD r) = some p ∧ p.canLay0 = true := ⟨_, py_ans (n := 9), by have := cnb; simp only [PyData.canLay0] at this; simp only [PyData.canLay0, PyData.canLayAll0, this, can_ints, Bool.and_self]⟩
theorem py_large {n : Int} : ∃ p, toPy S dpt (largeD n) = some p ∧ p.canLay0 = true := ⟨.tuple [.str "large", .int n, .int 8], rfl, by have := cnl; simp only [PyData.canLay0] at this; simp only [PyData.canLay0, PyData.canLayAll0, this, Bool.and_self]⟩
theorem py_fine : ∃ p, toPy S dpt fineD = some p ∧ p.canLay0 = true := ⟨.tuple [.str "fine"], rfl, by have := cnf; simp only [PyData.canLay0] at this; simp only [PyData.canLay0, PyData.canLayAll0, this, Bool.and_self]⟩
theorem py_ansD {o : Option (List Int)} : ∃ p, toPy S dpt (ansD o) = some p ∧ p.canLay0 = true := by
  cases o with
  | none => exact py_fine
  | some r => exact py_bad
theorem py_ansL {o : Option (List Int)} {n : Int} : ∃ p, toPy S dpt (ansL o n) = some p ∧ p.canLay0 = true := by
  cases o with
  | none =>
    unfold ansL
    dsimp only
    split
    · exact py_large
    · exact py_fine
  | some r => exact py_bad
/-- the loop over the names -/
theorem names_eq (h1 : asL S a = some (I x1)) (h2 : Rm S b x2) (h3 : Rm S c x3) (h4 : Rm S d x4) : ∀ n ∈ ([("free" : PySem.Str), "states", "within", "meet", "join", "late meet", "late join"] : List PySem.Str), ∃ A, f_law_outcome [.str n, .lst [a, b, c, d]] S = .ok A S ∧ f_law_expected [.str n, .lst [a, b, c, d]] S = .ok A S ∧ fNe A A S = .ok (.bl false) S := by
  have r1 : Rm S a x1 := .inl h1
  intro n hn
  simp only [List.mem_cons, List.not_mem_nil, or_false] at hn
  rcases hn with rfl | rfl | rfl | rfl | rfl | rfl | rfl
  · exact ⟨_, oc_free r1, exp_free r1, ans_ne (o := none) py_ansD⟩
  · exact ⟨_, oc_states r1, exp_states h1, ans_ne (o := none) py_ansL⟩
  · exact ⟨_, oc_within r1 h2, exp_within r1 h2, ans_ne (o := none) py_ansD⟩
  · exact ⟨_, oc_meet r1 h2 h3, exp_meet r1 h2 h3, ans_ne (o := none) py_ansD⟩
  · exact ⟨_, oc_join r1 h2 h3, exp_join r1 h2 h3, ans_ne (o := none) py_ansD⟩
  · exact ⟨_, oc_lmeet r1 h2 h3 h4, exp_lmeet r1 h2 h3 h4, ans_ne (o := none) py_ansD⟩
  · exact ⟨_, oc_ljoin r1 h2 h3 h4, exp_ljoin r1 h2 h3 h4, ans_ne (o := none) py_ansD⟩
end
end K02
/-! ## P02x -/
set_option Elab.async false
set_option linter.all false
set_option maxRecDepth 100000
set_option maxHeartbeats 1000000
namespace K02
open PySem PySem.Spec
open PyProof.Rows hiding St
open L2 EV0 EV
/-! ### _law_rooms -/
theorem okM_of {v : Int} (h0 : 0 ≤ v) (h3 : v < 3) : okM v = true := by
  have : v = 0 ∨ v = 1 ∨ v = 2 := by omega
  rcases this with h | h | h <;> subst h <;> rfl
theorem flat_rep {x : Int} : ∀ n : Nat, (List.replicate n [D.int x]).flatten = I (List.replicate n x)
  | 0 => rfl
  | n + 1 => by
    rw [List.replicate_succ, List.flatten_cons, flat_rep n, List.replicate_succ]
    rfl
section
variable {S : Store} {d : D} {ns : List Int} {n : Nat} {env : EV.Env}
/-- [x] * size -/
theorem rep_ok {x : Int} {i : Nat} (h : env[i]? = some (some (.int (n : Nat)))) (hn : n ≤ 100) : eBin fMul (eLst false [(eC (.int x))]) (eVar i) env S = .ok (.lst (I (List.replicate n x))) S := by
  rw [ap_eBin, lst_ok (args1 ap_eC), bind_ok, var_int h, bind_ok]
  have : ((n : Int) < 4294967296 ∧ -4294967296 < (n : Int) ∧ [D.int x].length * (n : Int).toNat ≤ sizeLine) := ⟨by omega, by omega, big_size (by simp; omega)⟩
  simp only [fMul, asLT, if_pos this]
  rw [show (n : Int).toNat = n from by omega, flat_rep]
theorem draws_rep {c x : Int} (hx : 0 < x) (hx2 : x < 1000) (hn : n ≤ 100) : ∃ vs : List Int, vs.length = n ∧ (∀ (i : Nat) (h : i < vs.length), 0 ≤ vs[i] ∧ vs[i] < x) ∧ f_law_draws [.int c, .lst (I (List.replicate n x))] S = .ok (.lst (I vs)) S := by
  obtain ⟨vs, ⟨h1, h2⟩, h3⟩ := law_draws_spec (S := S) (d := .lst (I (List.replicate n x))) (ss := List.replicate n x) (c := c) rfl (by simp; omega) (fun s hs => by
    rw [List.mem_replicate] at hs
    omega)
  refine ⟨vs, by simpa using h1, fun i h => ?_, h3⟩
  have := h2 i h (by rw [← h1]; exact h)
  rw [List.getElem_replicate] at this
  exact this
/-- the cells behind the list's own: where, what -/
def At (n : Nat) (G : Store) (p : Nat × List Int) : Prop := G[p.1]? = some (some (.lst (I p.2))) ∧ p.2.length = n ∧ p.2.all okM = true
theorem At.app {G G' : Store} {p : Nat × List Int} (h : At n G p) : At n (G ++ G') p := ⟨by
  rw [List.getElem?_append_left (List.getElem?_eq_some_iff.mp h.1).1]
  exact h.1, h.2⟩
theorem At.lt {G : Store} {p : Nat × List Int} (h : At n G p) : p.1 < G.length := (List.getElem?_eq_some_iff.mp h.1).1
abbrev Lo (S : Store) (p : Nat × List Int) : D := .loc (S.length + 1 + p.1)
theorem at_get {c : Option Cell} {G : Store} {i : Nat} : (S ++ c :: G)[S.length + 1 + i]? = G[i]? := by
  rw [List.getElem?_append_right (by omega)]
  have : S.length + 1 + i - S.length = i + 1 := by omega
  rw [this, List.getElem?_cons_succ]
theorem at_set {c x : Option Cell} {G : Store} {i : Nat} : (S ++ c :: G).set (S.length + 1 + i) x = S ++ c :: G.set i x := by
  rw [List.set_append_right _ _ (by omega)]
  have : S.length + 1 + i - S.length = i + 1 := by omega
  rw [this, List.set_cons_succ]
theorem at_get0 {c : Option Cell} {G : Store} : (S ++ c :: G)[S.length]? = some c := by
  rw [List.getElem?_append_right (by omega), Nat.sub_self]
  rfl
theorem at_set0 {c x : Option Cell} {G : Store} : (S ++ c :: G).set S.length x = S ++ x :: G := by
  rw [List.set_append_right _ _ (by omega), Nat.sub_self]
  rfl
noncomputable abbrev rmB : SM := (sSeq (sAsg (eApp f_law_draws [(eApp f_law_cell [(eVar 0), (eBin fAdd (eC (.int 3)) (eVar 5))]), (eBin fMul (eLst false [(eC (.int 6))]) (eVar 1))]) (gVar 6)) (sSeq (sAsg (eComp true (iPlain (eVar 6)) (gVar 10) bYes (eBin fMod (eApp fInt [(eVar 10)]) (eC (.int 3))) [10]) (gVar 7)) (sSeq (sIf (bOf (eBin fGt (eVar 2) (eC (.int 0)))) (sAsg (eComp true (iRange [(eVar 1)]) (gVar 8) bYes (eIf (bOf (eBin fLt (eBin fIx (eVar 6) (eVar 8)) (eC (.int 3)))) (eBin fIx (eVar 3) (eVar 8)) (eC (.int 2))) [8]) (gVar 7)) sNext) (sExpr (eMeth2 (some fmAppend) none (eVar 4) [(eVar 7)])))))
/-- a turn: one more row -/
theorem rm_turn {k : Nat} {m : Int} {base : List Int} {ds : List D} {G : Store} {o5 o6 o7 o9 o10 : Option D} (h : ∀ g, asQ (S ++ g) d = some (I ns)) (hn : n ≤ 100) (hb : base.length = n) (hb2 : ∀ (i : Nat) (h : i < base.length), 0 ≤ base[i] ∧ base[i] < 2) (hd : ds.length ≤ 1000) :
    ∃ p G' o6' , At n (G ++ G') p ∧ G.length ≤ p.1 ∧ turnF (gVar 5) rmB (.int (k : Nat)) [some d, some (.int (n : Nat)), some (.int m), some (.lst (I base)), some (.loc S.length), o5, o6, o7, none, o9, none] (S ++ some (.lst ds) :: G) = .nx [some d, some (.int (n : Nat)), some (.int m), some (.lst (I base)), some (.loc S.length), some (.int (k : Nat)), o6', some (Lo S p), none, o9, none] (S ++ some (.lst (ds ++ [Lo S p])) :: (G ++ G')) := by
  generalize hS : S ++ some (Cell.lst ds) :: G = S1
  have h1 : asQ S1 d = some (I ns) := by rw [← hS]; exact h _
  obtain ⟨vs, v1, v2, v3⟩ := draws_rep (S := S1) (c := ns.getD (3 + k) 0) (x := 6) (n := n) (by decide) (by decide) hn
  have g5 : gVar 5 (.int (k : Nat)) [some d, some (.int (n : Nat)), some (.int m), some (.lst (I base)), some (.loc S.length), o5, o6, o7, none, o9, none] S1 = .ok [some d, some (.int (n : Nat)), some (.int m), some (.lst (I base)), some (.loc S.length), some (.int (k : Nat)), o6, o7, none, o9, none] S1 := rfl
  have s1 : sAsg (eApp f_law_draws [(eApp f_law_cell [(eVar 0), (eBin fAdd (eC (.int 3)) (eVar 5))]), (eBin fMul (eLst false [(eC (.int 6))]) (eVar 1))]) (gVar 6) [some d, some (.int (n : Nat)), some (.int m), some (.lst (I base)), some (.loc S.length), some (.int (k : Nat)), o6, o7, none, o9, none] S1 = .nx [some d, some (.int (n : Nat)), some (.int m), some (.lst (I base)), some (.loc S.length), some (.int (k : Nat)), some (.lst (I vs)), o7, none, o9, none] S1 := by
    have a1 : eBin fAdd (eC (.int 3)) (eVar 5) [some d, some (.int (n : Nat)), some (.int m), some (.lst (I base)), some (.loc S.length), some (.int (k : Nat)), o6, o7, none, o9, none] S1 = .ok (.int ((3 + k : Nat) : Int)) S1 := by
      rw [ap_eBin, ap_eC, bind_ok, var_int rfl, bind_ok, add_ii]
      congr 2
    rw [ap_sAsg, app_ok (args2 (app_ok (args2 (varQ rfl h1) a1) (law_cell_spec h1)) (rep_ok rfl hn)) v3]
    rfl
  -- marks
  have c1 : eComp true (iPlain (eVar 6)) (gVar 10) bYes (eBin fMod (eApp fInt [(eVar 10)]) (eC (.int 3))) [10] [some d, some (.int (n : Nat)), some (.int m), some (.lst (I base)), some (.loc S.length), some (.int (k : Nat)), some (.lst (I vs)), o7, none, o9, none] S1 = .ok (.loc S1.length) (S1 ++ [some (.lst (I (vs.map (· % 3))))]) := by
    have c := comp_map (it := ⟨I vs, []⟩) (S := S1) (F := itemF (gVar 10) bYes (eBin fMod (eApp fInt [(eVar 10)]) (eC (.int 3))) [some d, some (.int (n : Nat)), some (.int m), some (.lst (I base)), some (.loc S.length), some (.int (k : Nat)), some (.lst (I vs)), o7, none, o9, none]) D.int (fun v => some (D.int (v % 3))) (l := vs) gOk_nils (fun v hv => by
      rw [ap_itemF]
      have g : gVar 10 (.int v) [some d, some (.int (n : Nat)), some (.int m), some (.lst (I base)), some (.loc S.length), some (.int (k : Nat)), some (.lst (I vs)), o7, none, o9, none] S1 = .ok [some d, some (.int (n : Nat)), some (.int m), some (.lst (I base)), some (.loc S.length), some (.int (k : Nat)), some (.lst (I vs)), o7, none, o9, some (.int v)] S1 := rfl
      rw [g]
      dsimp only
      rw [ap_bYes]
      dsimp only
      rw [ap_eBin, app_ok (args1 (var_int rfl)) int_i, bind_ok, ap_eC, bind_ok, mod_ii (by decide), bind_ok]) (acc := [])
    have e : (vs.filterMap fun v => some (D.int (v % 3))) = I (vs.map (· % 3)) := by
      rw [List.filterMap_eq_map', I, List.map_map]
      rfl
    rw [e] at c
    rw [ap_eComp, ap_iPlain, var_lst rfl, bind_ok]
    have hi : iterD S1 (.lst (I vs)) = some ⟨I vs, []⟩ := rfl
    rw [hi]
    dsimp only
    rw [bind_ok]
    show (compF _ _ (I vs) [] S1).bind _ = _
    have w : wipeE [some d, some (.int (n : Nat)), some (.int m), some (.lst (I base)), some (.loc S.length), some (.int (k : Nat)), some (.lst (I vs)), o7, none, o9, none] [10] = [some d, some (.int (n : Nat)), some (.int m), some (.lst (I base)), some (.loc S.length), some (.int (k : Nat)), some (.lst (I vs)), o7, none, o9, none] := rfl
    rw [w, c, bind_ok, mkL_t, List.nil_append]
  have hlen : S1.length = S.length + 1 + G.length := by rw [← hS]; simp; omega
  have app : ∀ {r : List Int} {G' : Store} {e : EV.Env} {l : Nat}, S1 ++ G' = S ++ some (Cell.lst ds) :: (G ++ G') → e[4]? = some (some (.loc S.length)) → e[7]? = some (some (.loc l)) → sExpr (eMeth2 (some fmAppend) none (eVar 4) [(eVar 7)]) e (S1 ++ G') = .nx e (S ++ some (.lst (ds ++ [.loc l])) :: (G ++ G')) := fun {r G' e l} hG h4 h7 => by
    rw [hG, ap_sExpr, meth_L (ds := ds) (var_loc h4) (asL_loc at_get0), args1 (var_loc h7), bind_ok, append_loc at_get0 (Nat.lt_of_lt_of_le (show ds.length < 100000 by omega) (big_size (Nat.le_refl _))), at_set0]
    rfl
  rw [ap_turnF, g5]
  show ∃ p G' o6', _ ∧ _ ∧ rmB _ _ = _
  have s2 : sAsg (eComp true (iPlain (eVar 6)) (gVar 10) bYes (eBin fMod (eApp fInt [(eVar 10)]) (eC (.int 3))) [10]) (gVar 7) [some d, some (.int (n : Nat)), some (.int m), some (.lst (I base)), some (.loc S.length), some (.int (k : Nat)), some (.lst (I vs)), o7, none, o9, none] S1 = .nx [some d, some (.int (n : Nat)), some (.int m), some (.lst (I base)), some (.loc S.length), some (.int (k : Nat)), some (.lst (I vs)), some (.loc S1.length), none, o9, none] (S1 ++ [some (.lst (I (vs.map (· % 3))))]) := by
    rw [ap_sAsg, c1]
    rfl
  have t : bOf (eBin fGt (eVar 2) (eC (.int 0))) [some d, some (.int (n : Nat)), some (.int m), some (.lst (I base)), some (.loc S.length), some (.int (k : Nat)), some (.lst (I vs)), some (.loc S1.length), none, o9, none] (S1 ++ [some (.lst (I (vs.map (· % 3))))]) = .ok (decide (0 < m)) (S1 ++ [some (.lst (I (vs.map (· % 3))))]) := by
    rw [ap_bOf, ap_eBin, var_int rfl, bind_ok, ap_eC, bind_ok, gt_ii, bind_ok]
  have mr : (vs.map (· % 3)).length = n ∧ (vs.map (· % 3)).all okM = true := by
    refine ⟨by simp [v1], ?_⟩
    rw [List.all_eq_true]
    intro x hx
    obtain ⟨y, hy, rfl⟩ := List.mem_map.mp hx
    exact okM_of (Int.emod_nonneg _ (by decide)) (Int.emod_lt_of_pos _ (by decide))
  by_cases hm : 0 < m
  · generalize hS2 : S1 ++ [some (Cell.lst (I (vs.map (· % 3))))] = S2
    rw [hS2] at s2 t
    have c2 : eComp true (iRange [(eVar 1)]) (gVar 8) bYes (eIf (bOf (eBin fLt (eBin fIx (eVar 6) (eVar 8)) (eC (.int 3)))) (eBin fIx (eVar 3) (eVar 8)) (eC (.int 2))) [8] [some d, some (.int (n : Nat)), some (.int m), some (.lst (I base)), some (.loc S.length), some (.int (k : Nat)), some (.lst (I vs)), some (.loc S1.length), none, o9, none] S2 = .ok (.loc S2.length) (S2 ++ [some (.lst (I ((List.range n).map fun i => if vs.getD i 0 < 3 then base.getD i 0 else 2)))]) := by
      have hr := range1 (m := eVar 1) (env := [some d, some (.int (n : Nat)), some (.int m), some (.lst (I base)), some (.loc S.length), some (.int (k : Nat)), some (.lst (I vs)), some (.loc S1.length), none, o9, none]) (S0 := S2) (S := S2) (j := n) (var_int rfl) (by omega) (by omega)
      rw [show (n : Int).toNat = n from by omega] at hr
      have c := comp_map (it := ⟨(List.range n).map fun (k : Nat) => D.int k, []⟩) (S := S2) (F := itemF (gVar 8) bYes (eIf (bOf (eBin fLt (eBin fIx (eVar 6) (eVar 8)) (eC (.int 3)))) (eBin fIx (eVar 3) (eVar 8)) (eC (.int 2))) [some d, some (.int (n : Nat)), some (.int m), some (.lst (I base)), some (.loc S.length), some (.int (k : Nat)), some (.lst (I vs)), some (.loc S1.length), none, o9, none]) (fun (k : Nat) => D.int k) (fun i => some (D.int (if vs.getD i 0 < 3 then base.getD i 0 else 2))) (l := List.range n) gOk_nils (fun i hi => by
        have hi : i < n := by simpa using hi
        rw [ap_itemF]
        have g : gVar 8 (.int (i : Nat)) [some d, some (.int (n : Nat)), some (.int m), some (.lst (I base)), some (.loc S.length), some (.int (k : Nat)), some (.lst (I vs)), some (.loc S1.length), none, o9, none] S2 = .ok [some d, some (.int (n : Nat)), some (.int m), some (.lst (I base)), some (.loc S.length), some (.int (k : Nat)), some (.lst (I vs)), some (.loc S1.length), some (.int (i : Nat)), o9, none] S2 := rfl
        rw [g]
        dsimp only
        rw [ap_bYes]
        dsimp only
        have t : bOf (eBin fLt (eBin fIx (eVar 6) (eVar 8)) (eC (.int 3))) [some d, some (.int (n : Nat)), some (.int m), some (.lst (I base)), some (.loc S.length), some (.int (k : Nat)), some (.lst (I vs)), some (.loc S1.length), some (.int (i : Nat)), o9, none] S2 = .ok (decide (vs.getD i 0 < 3)) S2 := by
          rw [ap_bOf, ap_eBin, ap_eBin, var_lst rfl, bind_ok, var_int rfl, bind_ok, ixI (xs := vs) rfl (by omega), bind_ok, ap_eC, bind_ok, lt_ii, bind_ok]
          simp [show i < vs.length by omega]
        have b : eBin fIx (eVar 3) (eVar 8) [some d, some (.int (n : Nat)), some (.int m), some (.lst (I base)), some (.loc S.length), some (.int (k : Nat)), some (.lst (I vs)), some (.loc S1.length), some (.int (i : Nat)), o9, none] S2 = .ok (.int (base.getD i 0)) S2 := by
          rw [ap_eBin, var_lst rfl, bind_ok, var_int rfl, bind_ok, ixI (xs := base) rfl (by omega)]
          simp [show i < base.length by omega]
        rw [ap_eIf, t, bind_ok]
        by_cases q : vs.getD i 0 < 3
        · rw [if_pos (by simpa using q), b, if_pos q]
          rfl
        · rw [if_neg (by simpa using q), if_neg q]
          rfl) (acc := [])
      have e : ((List.range n).filterMap fun i => some (D.int (if vs.getD i 0 < 3 then base.getD i 0 else 2))) = I ((List.range n).map fun i => if vs.getD i 0 < 3 then base.getD i 0 else 2) := by
        rw [List.filterMap_eq_map', I, List.map_map]
        rfl
      rw [e] at c
      rw [ap_eComp, hr, bind_ok]
      show (compF _ _ _ [] S2).bind _ = _
      have w : wipeE [some d, some (.int (n : Nat)), some (.int m), some (.lst (I base)), some (.loc S.length), some (.int (k : Nat)), some (.lst (I vs)), some (.loc S1.length), none, o9, none] [8] = [some d, some (.int (n : Nat)), some (.int m), some (.lst (I base)), some (.loc S.length), some (.int (k : Nat)), some (.lst (I vs)), some (.loc S1.length), none, o9, none] := rfl
      rw [w, c, bind_ok, mkL_t, List.nil_append]
    generalize hr : ((List.range n).map fun i => if vs.getD i 0 < 3 then base.getD i 0 else 2) = r at c2
    have hr2 : r.length = n ∧ r.all okM = true := by
      subst hr
      refine ⟨by simp, ?_⟩
      rw [List.all_eq_true]
      intro x hx
      obtain ⟨i, hi, rfl⟩ := List.mem_map.mp hx
      have hi : i < n := by simpa using hi
      split
      · have := hb2 i (by omega)
        have e : base.getD i 0 = base[i] := by simp [show i < base.length by omega]
        rw [e]
        exact okM_of (by omega) (by omega)
      · rfl
    have s3 : sIf (bOf (eBin fGt (eVar 2) (eC (.int 0)))) (sAsg (eComp true (iRange [(eVar 1)]) (gVar 8) bYes (eIf (bOf (eBin fLt (eBin fIx (eVar 6) (eVar 8)) (eC (.int 3)))) (eBin fIx (eVar 3) (eVar 8)) (eC (.int 2))) [8]) (gVar 7)) sNext [some d, some (.int (n : Nat)), some (.int m), some (.lst (I base)), some (.loc S.length), some (.int (k : Nat)), some (.lst (I vs)), some (.loc S1.length), none, o9, none] S2 = .nx [some d, some (.int (n : Nat)), some (.int m), some (.lst (I base)), some (.loc S.length), some (.int (k : Nat)), some (.lst (I vs)), some (.loc S2.length), none, o9, none] (S2 ++ [some (.lst (I r))]) := by
      rw [ap_sIf, t, R.then_ok, if_pos (by simpa using hm), ap_sAsg, c2]
      rfl
    have l2 : S2.length = S.length + 1 + (G.length + 1) := by rw [← hS2]; simp; omega
    refine ⟨(G.length + 1, r), [some (.lst (I (vs.map (· % 3)))), some (.lst (I r))], some (.lst (I vs)), ⟨?_, hr2⟩, by simp, ?_⟩
    · rw [List.getElem?_append_right (by simp)]
      simp
    · unfold rmB
      rw [seq_nx s1, seq_nx s2, seq_nx s3]
      have e2 : S2 ++ [some (Cell.lst (I r))] = S1 ++ [some (.lst (I (vs.map (· % 3)))), some (.lst (I r))] := by rw [← hS2]; simp
      have q := app (r := r) (G' := [some (.lst (I (vs.map (· % 3)))), some (.lst (I r))]) (e := [some d, some (.int (n : Nat)), some (.int m), some (.lst (I base)), some (.loc S.length), some (.int (k : Nat)), some (.lst (I vs)), some (.loc S2.length), none, o9, none]) (l := S2.length) (by rw [← hS]; simp) rfl rfl
      rw [e2, q, l2]
  · have s3 : sIf (bOf (eBin fGt (eVar 2) (eC (.int 0)))) (sAsg (eComp true (iRange [(eVar 1)]) (gVar 8) bYes (eIf (bOf (eBin fLt (eBin fIx (eVar 6) (eVar 8)) (eC (.int 3)))) (eBin fIx (eVar 3) (eVar 8)) (eC (.int 2))) [8]) (gVar 7)) sNext [some d, some (.int (n : Nat)), some (.int m), some (.lst (I base)), some (.loc S.length), some (.int (k : Nat)), some (.lst (I vs)), some (.loc S1.length), none, o9, none] (S1 ++ [some (.lst (I (vs.map (· % 3))))]) = .nx [some d, some (.int (n : Nat)), some (.int m), some (.lst (I base)), some (.loc S.length), some (.int (k : Nat)), some (.lst (I vs)), some (.loc S1.length), none, o9, none] (S1 ++ [some (.lst (I (vs.map (· % 3))))]) := by
      rw [ap_sIf, t, R.then_ok, if_neg (by simpa using hm)]
      rfl
    refine ⟨(G.length, vs.map (· % 3)), [some (.lst (I (vs.map (· % 3))))], some (.lst (I vs)), ⟨?_, mr⟩, by simp, ?_⟩
    · rw [List.getElem?_append_right (by simp)]
      simp
    · unfold rmB
      rw [seq_nx s1, seq_nx s2, seq_nx s3]
      have q := app (r := vs.map (· % 3)) (G' := [some (.lst (I (vs.map (· % 3))))]) (e := [some d, some (.int (n : Nat)), some (.int m), some (.lst (I base)), some (.loc S.length), some (.int (k : Nat)), some (.lst (I vs)), some (.loc S1.length), none, o9, none]) (l := S1.length) (by rw [← hS]; simp) rfl rfl
      rw [q, hlen]
end
end K02
/-! ## P02y -/
set_option Elab.async false
set_option linter.all false
set_option maxRecDepth 100000
set_option maxHeartbeats 1000000
namespace K02
open PySem PySem.Spec
open PyProof.Rows hiding St
open L2 EV0 EV
section
variable {S : Store} {d : D} {ns : List Int} {n : Nat} {env : EV.Env}
theorem At.set_ne {G : Store} {p : Nat × List Int} {i : Nat} {c : Option Cell} (h : At n G p) (hi : i ≠ p.1) : At n (G.set i c) p := ⟨by rw [List.getElem?_set_ne hi]; exact h.1, h.2⟩
theorem At.set_eq {G : Store} {p : Nat × List Int} (h : At n G p) {r : List Int} (hr : r.length = n ∧ r.all okM = true) : At n (G.set p.1 (some (.lst (I r)))) (p.1, r) := ⟨List.getElem?_set_self h.lt, hr⟩
theorem all_set {xs : List Int} {i : Nat} {v : Int} (h : xs.all okM = true) (hv : okM v = true) : (xs.set i v).all okM = true := by
  rw [List.all_eq_true] at h ⊢
  intro x hx
  rcases List.mem_or_eq_of_mem_set hx with hx | rfl
  · exact h x hx
  · exact hv
theorem lc (k : Nat) {j : Int} (hj : j = (k : Nat)) (h : asQ S d = some (I ns)) : f_law_cell [d, .int j] S = .ok (.int (ns.getD k 0)) S := by
  rw [hj]
  exact law_cell_spec h
theorem out_nxs {a b : SM} {e e' : EV.Env} {S S' : Store} (h : a e S = .nx e' S') : outR (sSeq a b e S) = outR (b e' S') := by rw [seq_nx h]
theorem law_rooms_spec (h : ∀ g, asQ (S ++ g) d = some (I ns)) (hn1 : 1 ≤ n) (h12 : n ≤ 12) : ∃ G p1 p2 p3 p4, At n G p1 ∧ At n G p2 ∧ At n G p3 ∧ At n G p4 ∧ p1.1 < p2.1 ∧ p2.1 < p3.1 ∧ p3.1 < p4.1 ∧
    f_law_rooms [d, .int (n : Nat)] S = .ok (.lst [Lo S p1, Lo S p2, Lo S p3, Lo S p4]) (S ++ none :: G) := by
  have h0 : asQ S d = some (I ns) := by
    have := h []
    rw [List.append_nil] at this
    exact this
  have e0 : env0 11 [d, .int (n : Nat)] = [some d, some (.int (n : Nat)), none, none, none, none, none, none, none, none, none] := rfl
  let m : Int := ns.getD 1 0 % 3
  have s1 : sAsg (eBin fMod (eApp fInt [(eApp f_law_cell [(eVar 0), (eC (.int 1))])]) (eC (.int 3))) (gVar 2) [some d, some (.int (n : Nat)), none, none, none, none, none, none, none, none, none] S = .nx [some d, some (.int (n : Nat)), some (.int m), none, none, none, none, none, none, none, none] S := by
    have q : eApp f_law_cell [(eVar 0), (eC (.int 1))] [some d, some (.int (n : Nat)), none, none, none, none, none, none, none, none, none] S = .ok (.int (ns.getD 1 0)) S := app_ok (args2 (varQ rfl h0) ap_eC) (lc 1 rfl h0)
    rw [ap_sAsg, ap_eBin, app_ok (args1 q) int_i, bind_ok, ap_eC, bind_ok, mod_ii (by decide)]
    rfl
  obtain ⟨base, b1, b2, b3⟩ := draws_rep (S := S) (c := ns.getD 2 0) (x := 2) (n := n) (by decide) (by decide) (by omega)
  have s2 : sAsg (eApp f_law_draws [(eApp f_law_cell [(eVar 0), (eC (.int 2))]), (eBin fMul (eLst false [(eC (.int 2))]) (eVar 1))]) (gVar 3) [some d, some (.int (n : Nat)), some (.int m), none, none, none, none, none, none, none, none] S = .nx [some d, some (.int (n : Nat)), some (.int m), some (.lst (I base)), none, none, none, none, none, none, none] S := by
    have q : eApp f_law_cell [(eVar 0), (eC (.int 2))] [some d, some (.int (n : Nat)), some (.int m), none, none, none, none, none, none, none, none] S = .ok (.int (ns.getD 2 0)) S := app_ok (args2 (varQ rfl h0) ap_eC) (lc 2 rfl h0)
    have q' : eBin fMul (eLst false [(eC (.int 2))]) (eVar 1) [some d, some (.int (n : Nat)), some (.int m), none, none, none, none, none, none, none, none] S = .ok (.lst (I (List.replicate n 2))) S := rep_ok rfl (by omega)
    rw [ap_sAsg, app_ok (args2 q q') b3]
    rfl
  have s3 : sAsg (eLst true []) (gVar 4) [some d, some (.int (n : Nat)), some (.int m), some (.lst (I base)), none, none, none, none, none, none, none] S = .nx [some d, some (.int (n : Nat)), some (.int m), some (.lst (I base)), some (.loc S.length), none, none, none, none, none, none] (S ++ some (.lst []) :: []) := rfl
  obtain ⟨p1, G1, x1, a1, a2, t1⟩ := rm_turn (S := S) (k := 0) (m := m) (base := base) (ds := []) (G := []) (o5 := none) (o6 := none) (o7 := none) (o9 := none) (o10 := none) h (by omega) b1 b2 (by simp)
  obtain ⟨p2, G2, x2, c1, c2, t2⟩ := rm_turn (S := S) (k := 1) (m := m) (base := base) (ds := [Lo S p1]) (G := G1) (o5 := some (.int (0 : Nat))) (o6 := x1) (o7 := some (Lo S p1)) (o9 := none) (o10 := none) h (by omega) b1 b2 (by simp)
  obtain ⟨p3, G3, x3, f1, f2, t3⟩ := rm_turn (S := S) (k := 2) (m := m) (base := base) (ds := [Lo S p1, Lo S p2]) (G := G1 ++ G2) (o5 := some (.int (1 : Nat))) (o6 := x2) (o7 := some (Lo S p2)) (o9 := none) (o10 := none) h (by omega) b1 b2 (by simp)
  simp only [List.nil_append, List.cons_append] at a1 t1 t2 t3
  have s4 : sFor (iRange [(eC (.int 3))]) (gVar 5) rmB sNext [some d, some (.int (n : Nat)), some (.int m), some (.lst (I base)), some (.loc S.length), none, none, none, none, none, none] (S ++ some (.lst []) :: []) = .nx [some d, some (.int (n : Nat)), some (.int m), some (.lst (I base)), some (.loc S.length), some (.int (2 : Nat)), x3, some (Lo S p3), none, none, none] (S ++ some (.lst [Lo S p1, Lo S p2, Lo S p3]) :: (G1 ++ G2 ++ G3)) := by
    rw [ap_sFor, range1 (j := 3) ap_eC (by decide) (by decide), R.then_ok]
    have hl : (List.range (3 : Int).toNat).map (fun (k : Nat) => D.int k) = [.int (0 : Nat), .int (1 : Nat), .int (2 : Nat)] := rfl
    dsimp only
    rw [hl, loop_cons gOk_nils, t1]
    show loopF _ _ _ _ _ _ = _
    rw [loop_cons gOk_nils, t2]
    show loopF _ _ _ _ _ _ = _
    rw [loop_cons gOk_nils, t3]
    show loopF _ _ _ _ _ _ = _
    rw [loop_nil gOk_nils]
    rfl
  -- what stands behind
  have A1 : At n (G1 ++ G2 ++ G3) p1 := (a1.app).app
  have A2 : At n (G1 ++ G2 ++ G3) p2 := c1.app
  have l12 : p1.1 < p2.1 := Nat.lt_of_lt_of_le a1.lt c2
  have l23 : p2.1 < p3.1 := Nat.lt_of_lt_of_le c1.lt f2
  generalize hG : G1 ++ G2 ++ G3 = G at *
  let hh : Nat := (ns.getD 6 0 % (n : Int)).toNat
  have hh0 : ((hh : Nat) : Int) = ns.getD 6 0 % (n : Int) := by
    have := Int.emod_nonneg (ns.getD 6 0) (b := (n : Int)) (by omega)
    omega
  have hhn : hh < n := by
    have := Int.emod_lt_of_pos (ns.getD 6 0) (b := (n : Int)) (by omega)
    omega
  let ro : List D := [Lo S p1, Lo S p2, Lo S p3]
  have s5 : sAsg (eBin fMod (eApp fInt [(eApp f_law_cell [(eVar 0), (eC (.int 6))])]) (eVar 1)) (gVar 8) [some d, some (.int (n : Nat)), some (.int m), some (.lst (I base)), some (.loc S.length), some (.int (2 : Nat)), x3, some (Lo S p3), none, none, none] (S ++ some (.lst ro) :: G) = .nx [some d, some (.int (n : Nat)), some (.int m), some (.lst (I base)), some (.loc S.length), some (.int (2 : Nat)), x3, some (Lo S p3), some (.int (hh : Nat)), none, none] (S ++ some (.lst ro) :: G) := by
    have h1 := h (some (Cell.lst ro) :: G)
    generalize S ++ some (Cell.lst ro) :: G = S1 at *
    have q : eApp f_law_cell [(eVar 0), (eC (.int 6))] [some d, some (.int (n : Nat)), some (.int m), some (.lst (I base)), some (.loc S.length), some (.int (2 : Nat)), x3, some (Lo S p3), none, none, none] S1 = .ok (.int (ns.getD 6 0)) S1 := app_ok (args2 (varQ rfl h1) ap_eC) (lc 6 rfl h1)
    rw [ap_sAsg, ap_eBin, app_ok (args1 q) int_i, bind_ok, var_int rfl, bind_ok, mod_ii (by omega), hh0]
    rfl
  have s6 : ∃ G' q2, At n G' p1 ∧ At n G' q2 ∧ At n G' p3 ∧ q2.1 = p2.1 ∧ sIf (bOf (eBin fEq (eVar 2) (eC (.int 2)))) (sAsg (eBin fSub (eC (.int 1)) (eBin fIx (eVar 3) (eVar 8))) (gSubD (eBin fIx (eVar 4) (eC (.int 1))) (eVar 8))) sNext [some d, some (.int (n : Nat)), some (.int m), some (.lst (I base)), some (.loc S.length), some (.int (2 : Nat)), x3, some (Lo S p3), some (.int (hh : Nat)), none, none] (S ++ some (.lst ro) :: G) = .nx [some d, some (.int (n : Nat)), some (.int m), some (.lst (I base)), some (.loc S.length), some (.int (2 : Nat)), x3, some (Lo S p3), some (.int (hh : Nat)), none, none] (S ++ some (.lst ro) :: G') := by
    by_cases hm : m = 2
    · have ob : okM (1 - base[hh]) = true := by
        have := b2 hh (by omega)
        exact okM_of (by omega) (by omega)
      refine ⟨G.set p2.1 (some (.lst (I (p2.2.set hh (1 - base[hh]))))), (p2.1, p2.2.set hh (1 - base[hh])), A1.set_ne (by omega), A2.set_eq ⟨by rw [List.length_set]; exact A2.2.1, all_set A2.2.2 ob⟩, f1.set_ne (by omega), rfl, ?_⟩
      have ix : ∀ {e : EV.Env}, e[4]? = some (some (.loc S.length)) → eBin fIx (eVar 4) (eC (.int 1)) e (S ++ some (.lst ro) :: G) = .ok (Lo S p2) (S ++ some (.lst ro) :: G) := fun {e} he => by
        rw [ap_eBin, var_loc he, bind_ok, ap_eC, bind_ok]
        exact ix_Q (i := 1) (ds := ro) (asQ_L (asL_loc at_get0)) rfl
      have st : fSetI (Lo S p2) (.int (hh : Nat)) (.int (1 - base[hh])) (S ++ some (.lst ro) :: G) = some (S ++ some (.lst ro) :: G.set p2.1 (some (.lst (I (p2.2.set hh (1 - base[hh])))))) := by
        rw [setI_loc (ds := I p2.2) (by rw [at_get]; exact A2.1) (by rw [List.length_map, A2.2.1]; exact hhn), at_set]
        simp
      rw [pick_i rfl, if_pos hm, ap_sAsg, ap_eBin, ap_eC, bind_ok, ap_eBin, var_lst rfl, bind_ok, var_int rfl, bind_ok, ixI (xs := base) rfl (by omega), bind_ok, sub_ii, R.then_ok, ap_gSubD, ix rfl, bind_ok, var_int rfl, bind_ok, st]
    · exact ⟨G, p2, A1, A2, f1, rfl, by rw [pick_i rfl, if_neg hm]; rfl⟩
  obtain ⟨G', q2, B1, B2, B3, hq, s6⟩ := s6
  have len : (S ++ some (Cell.lst ro) :: G').length = S.length + 1 + G'.length := by simp; omega
  have s7 : sAsg (eApp (fList true) [(eBin fIx (eVar 4) (eC (.int 0)))]) (gVar 9) [some d, some (.int (n : Nat)), some (.int m), some (.lst (I base)), some (.loc S.length), some (.int (2 : Nat)), x3, some (Lo S p3), some (.int (hh : Nat)), none, none] (S ++ some (.lst ro) :: G') = .nx [some d, some (.int (n : Nat)), some (.int m), some (.lst (I base)), some (.loc S.length), some (.int (2 : Nat)), x3, some (Lo S p3), some (.int (hh : Nat)), some (Lo S (G'.length, p1.2)), none] (S ++ some (.lst ro) :: (G' ++ [some (.lst (I p1.2))])) := by
    have ix : eBin fIx (eVar 4) (eC (.int 0)) [some d, some (.int (n : Nat)), some (.int m), some (.lst (I base)), some (.loc S.length), some (.int (2 : Nat)), x3, some (Lo S p3), some (.int (hh : Nat)), none, none] (S ++ some (.lst ro) :: G') = .ok (Lo S p1) (S ++ some (.lst ro) :: G') := by
      rw [ap_eBin, var_loc rfl, bind_ok, ap_eC, bind_ok]
      exact ix_Q (i := 0) (ds := ro) (asQ_L (asL_loc at_get0)) rfl
    have li : fList true [Lo S p1] (S ++ some (.lst ro) :: G') = .ok (.loc (S.length + 1 + G'.length)) ((S ++ some (.lst ro) :: G') ++ [some (.lst (I p1.2))]) := by
      rw [list_Q (ds := I p1.2) (asQ_L (asL_loc (by rw [at_get]; exact B1.1))), mkL_t, len]
    rw [ap_sAsg, app_ok (args1 ix) li, List.append_assoc]
    rfl
  have s8 : sAsg (eC (.int 2)) (gSubD (eVar 9) (eVar 8)) [some d, some (.int (n : Nat)), some (.int m), some (.lst (I base)), some (.loc S.length), some (.int (2 : Nat)), x3, some (Lo S p3), some (.int (hh : Nat)), some (Lo S (G'.length, p1.2)), none] (S ++ some (.lst ro) :: (G' ++ [some (.lst (I p1.2))])) = .nx [some d, some (.int (n : Nat)), some (.int m), some (.lst (I base)), some (.loc S.length), some (.int (2 : Nat)), x3, some (Lo S p3), some (.int (hh : Nat)), some (Lo S (G'.length, p1.2)), none] (S ++ some (.lst ro) :: (G' ++ [some (.lst (I (p1.2.set hh 2)))])) := by
    have st : fSetI (Lo S (G'.length, p1.2)) (.int (hh : Nat)) (.int 2) (S ++ some (.lst ro) :: (G' ++ [some (.lst (I p1.2))])) = some (S ++ some (.lst ro) :: (G' ++ [some (.lst (I (p1.2.set hh 2)))])) := by
      rw [setI_loc (ds := I p1.2) (by rw [at_get]; exact get_last) (by rw [List.length_map, B1.2.1]; exact hhn), at_set]
      simp
    rw [ap_sAsg, ap_eC, R.then_ok, ap_gSubD, var_loc rfl, bind_ok, var_int rfl, bind_ok, st]
  have s9 : sExpr (eMeth2 (some fmAppend) none (eVar 4) [(eVar 9)]) [some d, some (.int (n : Nat)), some (.int m), some (.lst (I base)), some (.loc S.length), some (.int (2 : Nat)), x3, some (Lo S p3), some (.int (hh : Nat)), some (Lo S (G'.length, p1.2)), none] (S ++ some (.lst ro) :: (G' ++ [some (.lst (I (p1.2.set hh 2)))])) = .nx [some d, some (.int (n : Nat)), some (.int m), some (.lst (I base)), some (.loc S.length), some (.int (2 : Nat)), x3, some (Lo S p3), some (.int (hh : Nat)), some (Lo S (G'.length, p1.2)), none] (S ++ some (.lst (ro ++ [Lo S (G'.length, p1.2)])) :: (G' ++ [some (.lst (I (p1.2.set hh 2)))])) := by
    rw [ap_sExpr, meth_L (ds := ro) (var_loc rfl) (asL_loc at_get0), args1 (var_loc rfl), bind_ok, append_loc at_get0 (Nat.lt_of_lt_of_le (show ro.length < 100000 by simp [ro]) (big_size (Nat.le_refl _))), at_set0]
    rfl
  refine ⟨G' ++ [some (.lst (I (p1.2.set hh 2)))], p1, q2, p3, (G'.length, p1.2.set hh 2), B1.app, B2.app, B3.app, ⟨get_last, by rw [List.length_set]; exact B1.2.1, all_set B1.2.2 rfl⟩, by omega, by omega, B3.lt, ?_⟩
  have key : outR (b_law_rooms (env0 11 [d, .int (n : Nat)]) S) = .ok (.loc S.length) (S ++ some (.lst (ro ++ [Lo S (G'.length, p1.2)])) :: (G' ++ [some (.lst (I (p1.2.set hh 2)))])) := by
    rw [e0]
    unfold b_law_rooms
    rw [out_nxs s1, out_nxs s2, out_nxs s3, out_nxs s4, out_nxs s5, out_nxs s6, out_nxs s7, out_nxs s8, out_nxs s9, ap_sRet, var_loc rfl]
    rfl
  have np : ([d, .int (n : Nat)] : List D).length = 2 := rfl
  unfold f_law_rooms
  simp only [defM, if_pos np, if_true, key, frzR, if_pos (Nat.le_refl _), at_get0, frzC, at_set0]
  have nl : ¬ (lb S.length (D.lst (ro ++ [Lo S (G'.length, p1.2)])) = true ∧ keepS S (S ++ none :: (G' ++ [some (.lst (I (p1.2.set hh 2)))]))) := by
    intro ⟨q, _⟩
    simp [lb, lbL, ro] at q
    omega
  have e2 : Lo S q2 = Lo S p2 := by simp only [Lo, hq]
  simp only [cutR, if_neg nl]
  rw [e2]
  rfl
end
end K02
/-! ## P02z -/
set_option Elab.async false
set_option linter.all false
set_option maxRecDepth 100000
set_option maxHeartbeats 1000000
namespace K02
open PySem PySem.Spec
open PyProof.Rows hiding St
open L2 EV0 EV
/-! ### _law_limits_hold -/
def limR (n v1 : Nat) (l : List Int) : List Int := (List.range (n - 8)).foldl (fun r k => r.set ((v1 + k) % n) (l.getD (2 + k) 0)) (List.replicate n 2)
theorem lim_cnt : ∀ (v0 : Fin 4) (v1 : Fin 12) (a b c d : Fin 2), let n := 9 + v0.val; let l : List Int := [0, 0, (a.val : Int), (b.val : Int), (c.val : Int), (d.val : Int)]; (limR n v1.val l).length = n ∧ (limR n v1.val l).all okM = true ∧ (limR n v1.val l).count 2 = 8 ∧ ((limR n v1.val l).set (v1.val % n) 2).count 2 = 9 := by decide +kernel
theorem lim_cnt2 : ∀ v0 : Fin 4, (List.replicate (9 + v0.val) (2 : Int)).all okM = true ∧ (List.replicate (9 + v0.val) (2 : Int)).count 2 = 9 + v0.val := by decide +kernel
section
variable {S : Store}
theorem oc_bad_all {a : D} {x : List Int} (h : Rm S a x) (hx : x.length = 0 ∨ 12 < x.length) : ∀ n ∈ ([("free" : PySem.Str), "states", "within", "meet", "join"] : List PySem.Str), f_law_outcome [.str n, .lst [a, a, a]] S = .ok (badD x) S := by
  have ck : ∀ rs, chk (x :: rs) = some x := fun rs => by
    have ck : chk (x :: rs) = if decide (1 ≤ x.length) && decide (x.length ≤ 12) then (x :: rs).find? (fun r => !okR x.length r) else some x := rfl
    rw [ck, if_neg (by simp; omega)]
  intro n hn
  simp only [List.mem_cons, List.not_mem_nil, or_false] at hn
  rcases hn with rfl | rfl | rfl | rfl | rfl
  · rw [oc_free h, ck]; rfl
  · rw [oc_states h, ck]; rfl
  · rw [oc_within h h, ck]; rfl
  · rw [oc_meet h h h, ck]; rfl
  · rw [oc_join h h h, ck]; rfl
theorem foldl_eq {α β : Type} {f g : β → α → β} : ∀ {l : List α} {b : β}, (∀ b a, a ∈ l → f b a = g b a) → l.foldl f b = l.foldl g b
  | [], _, _ => rfl
  | a :: l, b, h => by
    rw [List.foldl_cons, List.foldl_cons, h b a (by simp)]
    exact foldl_eq fun b a ha => h b a (by simp [ha])
noncomputable abbrev lhN : SM := (sIf (bOf (eBin fNe (eApp f_law_outcome [(eVar 5), (eLst false [(eVar 4), (eVar 4), (eVar 4)])]) (eTup [(eC (.str "bad")), (eApp fTupleK [(eVar 4)])]))) (sRet (eC (.bl false))) sNext)
noncomputable abbrev lhI : SM := (sFor (iPlain (eLst false [(eC (.str "free")), (eC (.str "states")), (eC (.str "within")), (eC (.str "meet")), (eC (.str "join"))])) (gVar 5) lhN sNext)
theorem lh_row {e0 e1 e2 e3 o5 : Option D} {x : List Int} (hx : x.length = 0 ∨ 12 < x.length) : ∃ o5', lhI [e0, e1, e2, e3, some (.lst (I x)), o5] S = .nx [e0, e1, e2, e3, some (.lst (I x)), o5'] S := by
  have rm : Rm S (.lst (I x)) x := .inl rfl
  have oc := oc_bad_all rm hx
  obtain ⟨env', ⟨o5', rfl⟩, q⟩ := loop_true (it := ⟨([("free" : PySem.Str), "states", "within", "meet", "join"] : List PySem.Str).map D.str, []⟩) (els := sNext) (body := turnF (gVar 5) lhN) (P := fun env => ∃ o5, env = [e0, e1, e2, e3, some (.lst (I x)), o5]) (S := S) gOk_nils (ds := ([("free" : PySem.Str), "states", "within", "meet", "join"] : List PySem.Str).map D.str) (fun env d ⟨o5, pe⟩ hd => by
    subst pe
    obtain ⟨n, hn, rfl⟩ := List.mem_map.mp hd
    have g5 : gVar 5 (.str n) [e0, e1, e2, e3, some (.lst (I x)), o5] S = .ok [e0, e1, e2, e3, some (.lst (I x)), some (.str n)] S := rfl
    refine ⟨[e0, e1, e2, e3, some (.lst (I x)), some (.str n)], ?_, _, rfl⟩
    rw [ap_turnF, g5]
    show lhN _ _ = _
    have t : bOf (eBin fNe (eApp f_law_outcome [(eVar 5), (eLst false [(eVar 4), (eVar 4), (eVar 4)])]) (eTup [(eC (.str "bad")), (eApp fTupleK [(eVar 4)])])) [e0, e1, e2, e3, some (.lst (I x)), some (.str n)] S = .ok false S := by
      have v4 : eVar 4 [e0, e1, e2, e3, some (.lst (I x)), some (.str n)] S = .ok (.lst (I x)) S := var_lst rfl
      have r : eTup [(eC (.str "bad")), (eApp fTupleK [(eVar 4)])] [e0, e1, e2, e3, some (.lst (I x)), some (.str n)] S = .ok (badD x) S := by
        rw [ap_eTup, args2 ap_eC (app_ok (args1 v4) rm.tup), bind_ok]
        rfl
      rw [ap_bOf, ap_eBin, app_ok (args2 (var_str rfl) (lst_ok (args3 v4 v4 v4))) (oc n hn), bind_ok, r, bind_ok, ans_ne (o := none) py_bad, bind_ok]
    unfold lhN
    rw [ap_sIf, t]
    rfl) ⟨o5, rfl⟩
  refine ⟨o5', ?_⟩
  unfold lhI
  rw [ap_sFor]
  exact q
theorem limits_spec {vs : List Int} (hv : Drawn [4, 12, 2, 2, 2, 2, 4, 3] vs) : f_law_limits_hold [.lst (I vs)] S = .ok (.bl true) S := by
  obtain ⟨hl, hb⟩ := hv
  match vs, hl with
  | [a0, a1, a2, a3, a4, a5, a6, a7], _ =>
  have b0 := hb 0 (by simp) (by simp)
  have b1 := hb 1 (by simp) (by simp)
  have b2 := hb 2 (by simp) (by simp)
  have b3 := hb 3 (by simp) (by simp)
  have b4 := hb 4 (by simp) (by simp)
  have b5 := hb 5 (by simp) (by simp)
  have b6 := hb 6 (by simp) (by simp)
  have b7 := hb 7 (by simp) (by simp)
  simp only [List.getElem_cons_zero, List.getElem_cons_succ] at b0 b1 b2 b3 b4 b5 b6 b7
  generalize hV : [a0, a1, a2, a3, a4, a5, a6, a7] = V
  have hV8 : V.length = 8 := by rw [← hV]; rfl
  obtain ⟨n, hn⟩ : ∃ n : Nat, n = 9 + a0.toNat := ⟨_, rfl⟩
  obtain ⟨w1, hw⟩ : ∃ w1 : Nat, w1 = a1.toNat := ⟨_, rfl⟩
  have hw1 : ((w1 : Nat) : Int) = a1 := by omega
  have cnt := lim_cnt ⟨a0.toNat, by omega⟩ ⟨a1.toNat, by omega⟩ ⟨a2.toNat, by omega⟩ ⟨a3.toNat, by omega⟩ ⟨a4.toNat, by omega⟩ ⟨a5.toNat, by omega⟩
  have cnt2 := lim_cnt2 ⟨a0.toNat, by omega⟩
  dsimp only at cnt cnt2
  rw [← hn, ← hw] at cnt
  rw [← hn] at cnt2
  have lR : limR n w1 [0, 0, (a2.toNat : Int), (a3.toNat : Int), (a4.toNat : Int), (a5.toNat : Int)] = limR n w1 V := by
    unfold limR
    apply foldl_eq
    intro r k hk
    have hk : k < n - 8 := by simpa using hk
    have hk4 : k < 4 := by omega
    rw [← hV]
    congr 1
    match k, hk4 with
    | 0, _ => simp; omega
    | 1, _ => simp; omega
    | 2, _ => simp; omega
    | 3, _ => simp; omega
  rw [lR] at cnt
  obtain ⟨c1, c2, c3, c4⟩ := cnt
  generalize hx : limR n w1 V = x at c1 c2 c3 c4
  have e0 : env0 6 [.lst (I V)] = [some (.lst (I V)), none, none, none, none, none] := rfl
  have ixv : ∀ {e : EV.Env} {T : Store} (i : Nat) {j : Int} (hj : j = (i : Nat)) (hi : i < V.length), e[0]? = some (some (.lst (I V))) → eBin fIx (eVar 0) (eC (.int j)) e T = .ok (.int V[i]) T := fun {e T} i {j} hj hi he => by
    rw [ap_eBin, var_lst he, bind_ok, ap_eC, bind_ok, hj]
    exact ixI (xs := V) rfl hi
  have V0 : V[0] = a0 := by subst hV; rfl
  have V1 : V[1] = a1 := by subst hV; rfl
  have V6 : V[6] = a6 := by subst hV; rfl
  have V7 : V[7] = a7 := by subst hV; rfl
  have ix0 : ∀ {e : EV.Env} {T : Store}, e[0]? = some (some (.lst (I V))) → eBin fIx (eVar 0) (eC (.int 0)) e T = .ok (.int a0) T := fun {e T} he => V0 ▸ ixv 0 rfl (by omega) he
  have ix1 : ∀ {e : EV.Env} {T : Store}, e[0]? = some (some (.lst (I V))) → eBin fIx (eVar 0) (eC (.int 1)) e T = .ok (.int a1) T := fun {e T} he => V1 ▸ ixv 1 rfl (by omega) he
  have ix6 : ∀ {e : EV.Env} {T : Store}, e[0]? = some (some (.lst (I V))) → eBin fIx (eVar 0) (eC (.int 6)) e T = .ok (.int a6) T := fun {e T} he => V6 ▸ ixv 6 rfl (by omega) he
  have ix7 : ∀ {e : EV.Env} {T : Store}, e[0]? = some (some (.lst (I V))) → eBin fIx (eVar 0) (eC (.int 7)) e T = .ok (.int a7) T := fun {e T} he => V7 ▸ ixv 7 rfl (by omega) he
  have s1 : sAsg (eBin fAdd (eC (.int 9)) (eBin fIx (eVar 0) (eC (.int 0)))) (gVar 1) [some (.lst (I V)), none, none, none, none, none] S = .nx [some (.lst (I V)), some (.int (n : Nat)), none, none, none, none] S := by
    rw [ap_sAsg, ap_eBin, ap_eC, bind_ok, ix0 rfl, bind_ok, add_ii]
    have : (9 : Int) + a0 = (n : Nat) := by omega
    rw [this]
    rfl
  have s2 : sAsg (eBin fMulC (eLst false [(eC (.int 2))]) (eVar 1)) (gVar 2) [some (.lst (I V)), some (.int (n : Nat)), none, none, none, none] S = .nx [some (.lst (I V)), some (.int (n : Nat)), some (.loc S.length), none, none, none] (S ++ [some (.lst (I (List.replicate n 2)))]) := by
    have c : ((n : Int) < 4294967296 ∧ -4294967296 < (n : Int) ∧ [D.int 2].length * (n : Int).toNat ≤ sizeLine) := ⟨by omega, by omega, big_size (by simp; omega)⟩
    have m : fMulC (.lst [.int 2]) (.int (n : Nat)) S = .ok (.loc S.length) (S ++ [some (.lst (I (List.replicate n 2)))]) := by
      simp only [fMulC, asLT, if_pos c]
      rw [show (n : Int).toNat = n from by omega, flat_rep, mkL_t]
    rw [ap_sAsg, ap_eBin, lst_ok (args1 ap_eC), bind_ok, var_int rfl, bind_ok, m]
    rfl
  have s3 : ∃ o3, sFor (iRange [(eBin fSub (eVar 1) (eC (.int 8)))]) (gVar 3) (sAsg (eBin fIx (eVar 0) (eBin fAdd (eC (.int 2)) (eVar 3))) (gSubD (eVar 2) (eBin fMod (eApp fInt [(eBin fAdd (eBin fIx (eVar 0) (eC (.int 1))) (eVar 3))]) (eVar 1)))) sNext [some (.lst (I V)), some (.int (n : Nat)), some (.loc S.length), none, none, none] (S ++ [some (.lst (I (List.replicate n 2)))]) = .nx [some (.lst (I V)), some (.int (n : Nat)), some (.loc S.length), o3, none, none] (S ++ [some (.lst (I x))]) := by
    have hr := range1 (m := eBin fSub (eVar 1) (eC (.int 8))) (env := [some (.lst (I V)), some (.int (n : Nat)), some (.loc S.length), none, none, none]) (S0 := S ++ [some (.lst (I (List.replicate n 2)))]) (S := S ++ [some (.lst (I (List.replicate n 2)))]) (j := ((n - 8 : Nat) : Int)) (by
      rw [ap_eBin, var_int rfl, bind_ok, ap_eC, bind_ok, sub_ii]
      have : (n : Int) - 8 = ((n - 8 : Nat) : Int) := by omega
      rw [this]) (by omega) (by omega)
    have L := loop_fold (it := ⟨(List.range (((n - 8 : Nat) : Int)).toNat).map fun (k : Nat) => D.int k, []⟩) (els := sNext) (body := turnF (gVar 3) (sAsg (eBin fIx (eVar 0) (eBin fAdd (eC (.int 2)) (eVar 3))) (gSubD (eVar 2) (eBin fMod (eApp fInt [(eBin fAdd (eBin fIx (eVar 0) (eC (.int 1))) (eVar 3))]) (eVar 1))))) (σ := Option D × List Int) (ι := Nat)
      (fun s => [some (.lst (I V)), some (.int (n : Nat)), some (.loc S.length), s.1, none, none]) (fun s => S ++ [some (.lst (I s.2))]) (fun k => D.int k) (fun s k => (some (.int k), s.2.set ((w1 + k) % n) (V.getD (2 + k) 0))) (fun s => s.2.length = n) (l := List.range (((n - 8 : Nat) : Int)).toNat) (fun s _ => gOk_nils) (fun s k hs hk => by
        obtain ⟨o, r⟩ := s
        have hs : r.length = n := hs
        have hk : k < n - 8 := by simpa using hk
        refine ⟨?_, by show (r.set _ _).length = n; rw [List.length_set]; exact hs⟩
        have g3 : gVar 3 (.int (k : Nat)) [some (.lst (I V)), some (.int (n : Nat)), some (.loc S.length), o, none, none] (S ++ [some (.lst (I r))]) = .ok [some (.lst (I V)), some (.int (n : Nat)), some (.loc S.length), some (.int (k : Nat)), none, none] (S ++ [some (.lst (I r))]) := rfl
        rw [ap_turnF]
        dsimp only
        rw [g3]
        dsimp only
        have a1' : eBin fIx (eVar 0) (eBin fAdd (eC (.int 2)) (eVar 3)) [some (.lst (I V)), some (.int (n : Nat)), some (.loc S.length), some (.int (k : Nat)), none, none] (S ++ [some (.lst (I r))]) = .ok (.int (V.getD (2 + k) 0)) (S ++ [some (.lst (I r))]) := by
          rw [ap_eBin, var_lst rfl, bind_ok, ap_eBin, ap_eC, bind_ok, var_int rfl, bind_ok, add_ii, bind_ok]
          have e : (2 : Int) + k = ((2 + k : Nat) : Int) := by omega
          rw [e, ixI (xs := V) rfl (show 2 + k < V.length by omega)]
          simp [show 2 + k < V.length by omega]
        have a2' : eBin fMod (eApp fInt [(eBin fAdd (eBin fIx (eVar 0) (eC (.int 1))) (eVar 3))]) (eVar 1) [some (.lst (I V)), some (.int (n : Nat)), some (.loc S.length), some (.int (k : Nat)), none, none] (S ++ [some (.lst (I r))]) = .ok (.int (((w1 + k) % n : Nat) : Int)) (S ++ [some (.lst (I r))]) := by
          have q : eBin fAdd (eBin fIx (eVar 0) (eC (.int 1))) (eVar 3) [some (.lst (I V)), some (.int (n : Nat)), some (.loc S.length), some (.int (k : Nat)), none, none] (S ++ [some (.lst (I r))]) = .ok (.int ((w1 + k : Nat) : Int)) (S ++ [some (.lst (I r))]) := by
            rw [ap_eBin, ix1 rfl, bind_ok, var_int rfl, bind_ok, add_ii]
            have : a1 + (k : Int) = ((w1 + k : Nat) : Int) := by omega
            rw [this]
          rw [ap_eBin, app_ok (args1 q) int_i, bind_ok, var_int rfl, bind_ok, mod_ii (by omega)]
          rfl
        rw [ap_sAsg, a1', R.then_ok, ap_gSubD, var_loc rfl, bind_ok, a2', bind_ok, setI_loc get_last (by rw [List.length_map, hs]; exact Nat.mod_lt _ (by omega)), set_last]
        simp) (s := (none, List.replicate n 2)) (by simp)
    have hn8 : (((n - 8 : Nat) : Int)).toNat = n - 8 := by omega
    rw [hn8] at hr L
    have F : ∀ (l : List Nat) (o : Option D) (r : List Int), (l.foldl (fun (s : Option D × List Int) (k : Nat) => (some (D.int (k : Nat)), s.2.set ((w1 + k) % n) (V.getD (2 + k) 0))) (o, r)).2 = l.foldl (fun r k => r.set ((w1 + k) % n) (V.getD (2 + k) 0)) r := by
      intro l
      induction l with
      | nil => intros; rfl
      | cons k l ih => intro o r; rw [List.foldl_cons, List.foldl_cons, ih]
    have F2 := F (List.range (n - 8)) none (List.replicate n 2)
    rw [show (List.range (n - 8)).foldl (fun (r : List Int) (k : Nat) => r.set ((w1 + k) % n) (V.getD (2 + k) 0)) (List.replicate n 2) = x from hx] at F2
    obtain ⟨fs, hfs⟩ : ∃ fs, fs = (List.range (n - 8)).foldl (fun (s : Option D × List Int) (k : Nat) => (some (D.int (k : Nat)), s.2.set ((w1 + k) % n) (V.getD (2 + k) 0))) (none, List.replicate n 2) := ⟨_, rfl⟩
    have L1 := L.1
    rw [← hfs] at F2 L1
    refine ⟨fs.1, ?_⟩
    rw [ap_sFor, hr, R.then_ok]
    refine L1.trans ?_
    show SO.nx [some (.lst (I V)), some (.int (n : Nat)), some (.loc S.length), fs.1, none, none] (S ++ [some (.lst (I fs.2))]) = _
    rw [F2]
  obtain ⟨o3, s3⟩ := s3
  have n9 : 9 ≤ n := by omega
  have n12 : n ≤ 12 := by omega
  have rx : Rm (S ++ [some (.lst (I x))]) (.loc S.length) x := .inl (asL_loc get_last)
  have lx : lone x = true := by simp [lone, c1, c2]; omega
  have s4 : sIf (bNot (bTru (eApp (f_law_same 4) [(eApp f_states_of [(eVar 2)]), (eApp fTupleK [(eApp f_law_states [(eVar 2)])])]))) (sRet (eC (.bl false))) sNext [some (.lst (I V)), some (.int (n : Nat)), some (.loc S.length), o3, none, none] (S ++ [some (.lst (I x))]) = .nx [some (.lst (I V)), some (.int (n : Nat)), some (.loc S.length), o3, none, none] (S ++ [some (.lst (I x))]) := by
    have st := states_of_spec rx
    rw [if_pos lx, if_neg (by omega)] at st
    have ls := law_states_spec rx.q c2 (by omega) (by omega)
    refine chk_ok (app_ok (args1 (var_loc rfl)) st) (app_ok (args1 (app_ok (args1 (var_loc rfl)) ls)) (tupK_L rfl)) (same2 rfl rfl ?_ fun st hst => by rw [LS_wide hst]; omega)
    rw [LS_len, c3]
    decide
  let x' := x.set (w1 % n) 2
  have hs5 : w1 % n < n := Nat.mod_lt _ (by omega)
  have s5 : sAsg (eC (.int 2)) (gSubD (eVar 2) (eBin fMod (eApp fInt [(eBin fIx (eVar 0) (eC (.int 1)))]) (eVar 1))) [some (.lst (I V)), some (.int (n : Nat)), some (.loc S.length), o3, none, none] (S ++ [some (.lst (I x))]) = .nx [some (.lst (I V)), some (.int (n : Nat)), some (.loc S.length), o3, none, none] (S ++ [some (.lst (I x'))]) := by
    have a2' : eBin fMod (eApp fInt [(eBin fIx (eVar 0) (eC (.int 1)))]) (eVar 1) [some (.lst (I V)), some (.int (n : Nat)), some (.loc S.length), o3, none, none] (S ++ [some (.lst (I x))]) = .ok (.int ((w1 % n : Nat) : Int)) (S ++ [some (.lst (I x))]) := by
      rw [ap_eBin, app_ok (args1 (ix1 rfl)) int_i, bind_ok, var_int rfl, bind_ok, mod_ii (by omega), ← hw1]
      rfl
    rw [ap_sAsg, ap_eC, R.then_ok, ap_gSubD, var_loc rfl, bind_ok, a2', bind_ok, setI_loc get_last (by rw [List.length_map, c1]; exact hs5), set_last]
    simp [x']
  have rx' : Rm (S ++ [some (.lst (I x'))]) (.loc S.length) x' := .inl (asL_loc get_last)
  have lx' : lone x' = true := by
    have : x'.length = n := by simp [x', c1]
    have h2 : x'.all okM = true := all_set c2 rfl
    simp [lone, this, h2]; omega
  have s6 : sIf (bOr (bOf (eBin fNe (eApp f_law_outcome [(eC (.str "states")), (eLst false [(eVar 2)])]) (eTup [(eC (.str "large")), (eC (.int 9)), (eC (.int 8))]))) (bOf (eBin fNe (eApp f_law_outcome [(eC (.str "states")), (eLst false [(eBin fMul (eLst false [(eC (.int 2))]) (eVar 1))])]) (eTup [(eC (.str "large")), (eVar 1), (eC (.int 8))])))) (sRet (eC (.bl false))) sNext [some (.lst (I V)), some (.int (n : Nat)), some (.loc S.length), o3, none, none] (S ++ [some (.lst (I x'))]) = .nx [some (.lst (I V)), some (.int (n : Nat)), some (.loc S.length), o3, none, none] (S ++ [some (.lst (I x'))]) := by
    generalize S ++ [some (Cell.lst (I x'))] = T at *
    have o1 := oc_states (ds := []) rx'
    have r2 : Rm T (.lst (I (List.replicate n 2))) (List.replicate n 2) := .inl rfl
    have o2 := oc_states (ds := []) r2
    have l2 : lone (List.replicate n 2) = true := by
      have := cnt2.1
      simp only [lone, List.length_replicate, show (List.replicate n (2 : Int)).all okM = true from cnt2.1, Bool.and_true]
      simp; omega
    have k1 : ansL (chk [x']) (x'.count 2 : Nat) = largeD 9 := by
      rw [chk_cons, if_pos lx']
      have : x'.count 2 = 9 := c4
      rw [this]
      rfl
    have k2 : ansL (chk [List.replicate n 2]) ((List.replicate n (2 : Int)).count 2 : Nat) = largeD (n : Nat) := by
      rw [chk_cons, if_pos l2, show (List.replicate n (2 : Int)).count 2 = n from cnt2.2]
      show (if (8 : Int) < ((n : Nat) : Int) then largeD (n : Nat) else fineD) = _
      rw [if_pos (by omega)]
    rw [k1] at o1
    rw [k2] at o2
    have t1 : bOf (eBin fNe (eApp f_law_outcome [(eC (.str "states")), (eLst false [(eVar 2)])]) (eTup [(eC (.str "large")), (eC (.int 9)), (eC (.int 8))])) [some (.lst (I V)), some (.int (n : Nat)), some (.loc S.length), o3, none, none] T = .ok false T := by
      have r : eTup [(eC (.str "large")), (eC (.int 9)), (eC (.int 8))] [some (.lst (I V)), some (.int (n : Nat)), some (.loc S.length), o3, none, none] T = .ok (largeD 9) T := rfl
      rw [ap_bOf, ap_eBin, app_ok (args2 ap_eC (lst_ok (args1 (var_loc rfl)))) o1, bind_ok, r, bind_ok, ans_ne (o := none) py_large, bind_ok]
    have t2 : bOf (eBin fNe (eApp f_law_outcome [(eC (.str "states")), (eLst false [(eBin fMul (eLst false [(eC (.int 2))]) (eVar 1))])]) (eTup [(eC (.str "large")), (eVar 1), (eC (.int 8))])) [some (.lst (I V)), some (.int (n : Nat)), some (.loc S.length), o3, none, none] T = .ok false T := by
      have r : eTup [(eC (.str "large")), (eVar 1), (eC (.int 8))] [some (.lst (I V)), some (.int (n : Nat)), some (.loc S.length), o3, none, none] T = .ok (largeD (n : Nat)) T := rfl
      have q' : eBin fMul (eLst false [(eC (.int 2))]) (eVar 1) [some (.lst (I V)), some (.int (n : Nat)), some (.loc S.length), o3, none, none] T = .ok (.lst (I (List.replicate n 2))) T := rep_ok rfl (by omega)
      rw [ap_bOf, ap_eBin, app_ok (args2 ap_eC (lst_ok (args1 q'))) o2, bind_ok, r, bind_ok, ans_ne (o := none) py_large, bind_ok]
    rw [ap_sIf, ap_bOr, t1, bind_ok, if_neg (by decide), t2]
    rfl
  have s7 : ∃ o4 o5, sFor (iPlain (eLst false [(eBin fMul (eLst false [(eBin fIx (eVar 0) (eC (.int 7)))]) (eBin fAdd (eC (.int 13)) (eBin fIx (eVar 0) (eC (.int 6))))), (eLst false [])])) (gVar 4) lhI sNext [some (.lst (I V)), some (.int (n : Nat)), some (.loc S.length), o3, none, none] (S ++ [some (.lst (I x'))]) = .nx [some (.lst (I V)), some (.int (n : Nat)), some (.loc S.length), o3, o4, o5] (S ++ [some (.lst (I x'))]) := by
    generalize S ++ [some (Cell.lst (I x'))] = T at *
    obtain ⟨mm, hmm⟩ : ∃ mm : Nat, mm = 13 + a6.toNat := ⟨_, rfl⟩
    have q' : eBin fMul (eLst false [(eBin fIx (eVar 0) (eC (.int 7)))]) (eBin fAdd (eC (.int 13)) (eBin fIx (eVar 0) (eC (.int 6)))) [some (.lst (I V)), some (.int (n : Nat)), some (.loc S.length), o3, none, none] T = .ok (.lst (I (List.replicate mm a7))) T := by
      rw [ap_eBin, lst_ok (args1 (ix7 rfl)), bind_ok, ap_eBin, ap_eC, bind_ok, ix6 rfl, bind_ok, add_ii, bind_ok]
      have e : (13 : Int) + a6 = ((mm : Nat) : Int) := by omega
      rw [e]
      have c : ((mm : Int) < 4294967296 ∧ -4294967296 < (mm : Int) ∧ [D.int a7].length * (mm : Int).toNat ≤ sizeLine) := ⟨by omega, by omega, big_size (by simp; omega)⟩
      simp only [fMul, asLT, if_pos c]
      rw [show (mm : Int).toNat = mm from by omega, flat_rep]
    have hi : iPlain (eLst false [(eBin fMul (eLst false [(eBin fIx (eVar 0) (eC (.int 7)))]) (eBin fAdd (eC (.int 13)) (eBin fIx (eVar 0) (eC (.int 6))))), (eLst false [])]) [some (.lst (I V)), some (.int (n : Nat)), some (.loc S.length), o3, none, none] T = .ok ⟨[.lst (I (List.replicate mm a7)), .lst (I [])], []⟩ T := by
      rw [ap_iPlain, lst_ok (args2 q' (lst_ok rfl)), bind_ok]
      rfl
    obtain ⟨env', ⟨o4, o5, rfl⟩, q⟩ := loop_true (it := ⟨[.lst (I (List.replicate mm a7)), .lst (I [])], []⟩) (els := sNext) (body := turnF (gVar 4) lhI) (P := fun env => ∃ o4 o5, env = [some (.lst (I V)), some (.int (n : Nat)), some (.loc S.length), o3, o4, o5]) (S := T) gOk_nils (ds := [.lst (I (List.replicate mm a7)), .lst (I [])]) (fun env d ⟨o4, o5, pe⟩ hd => by
      subst pe
      have row : ∀ x : List Int, (x.length = 0 ∨ 12 < x.length) → ∃ env', turnF (gVar 4) lhI (.lst (I x)) [some (.lst (I V)), some (.int (n : Nat)), some (.loc S.length), o3, o4, o5] T = .nx env' T ∧ ∃ o4 o5, env' = [some (.lst (I V)), some (.int (n : Nat)), some (.loc S.length), o3, o4, o5] := fun x hx => by
        obtain ⟨o5', q⟩ := lh_row (S := T) (e0 := some (.lst (I V))) (e1 := some (.int (n : Nat))) (e2 := some (.loc S.length)) (e3 := o3) (o5 := o5) hx
        have g4 : gVar 4 (.lst (I x)) [some (.lst (I V)), some (.int (n : Nat)), some (.loc S.length), o3, o4, o5] T = .ok [some (.lst (I V)), some (.int (n : Nat)), some (.loc S.length), o3, some (.lst (I x)), o5] T := rfl
        refine ⟨[some (.lst (I V)), some (.int (n : Nat)), some (.loc S.length), o3, some (.lst (I x)), o5'], ?_, some (.lst (I x)), o5', rfl⟩
        rw [ap_turnF, g4]
        exact q
      simp only [List.mem_cons, List.not_mem_nil, or_false] at hd
      rcases hd with rfl | rfl
      · exact row (List.replicate mm a7) (.inr (by simp; omega))
      · exact row [] (.inl rfl)) ⟨none, none, rfl⟩
    refine ⟨o4, o5, ?_⟩
    rw [ap_sFor, hi, R.then_ok]
    exact q
  obtain ⟨o4, o5, s7⟩ := s7
  have key : outR (b_law_limits_hold (env0 6 [.lst (I V)]) S) = .ok (.bl true) (S ++ [some (.lst (I x'))]) := by
    rw [e0]
    unfold b_law_limits_hold
    rw [out_nxs s1, out_nxs s2, out_nxs s3, out_nxs s4, out_nxs s5, out_nxs s6]
    unfold lhI lhN at s7
    rw [out_nxs s7, ap_sRet, ap_eC]
    rfl
  exact defM_ok rfl key rfl
end
end K02
/-! ## P03a -/
set_option Elab.async false
set_option linter.all false
set_option maxRecDepth 100000
set_option maxHeartbeats 1000000
namespace K02
open PySem PySem.Spec
open PyProof.Rows hiding St
open L2 EV0 EV
/-! ### the law -/
section
variable {S : Store} {env : EV.Env} {m : EM} {ds : List D} {rs : List (List Int)}
/-- [tuple(room) for room in m] -/
theorem tups (hm : m env S = .ok (.lst ds) S) (h : Rws S ds rs) (hl : env.length = 11) : eComp false (iPlain m) (gVar 9) bYes (eApp fTupleK [(eVar 9)]) [9] env S = .ok (.lst (K rs)) S := by
  obtain ⟨z1, z2, z3⟩ := h.zip
  have c := comp_map (it := ⟨ds, []⟩) (S := S) (F := itemF (gVar 9) bYes (eApp fTupleK [(eVar 9)]) (wipeE env [9])) (fun p : D × List Int => p.1) (fun p => some (D.ktup (I p.2))) (l := ds.zip rs) gOk_nils (fun p hp => by
    have rm := z3 p hp
    have w : wipeE env [9] = env.set 9 none := rfl
    have g9 : gVar 9 p.1 (env.set 9 none) S = .ok ((env.set 9 none).set 9 (some p.1)) S := by rw [ap_gVar, if_pos (by rw [List.length_set, hl]; decide)]
    rw [w, ap_itemF, g9]
    dsimp only
    rw [ap_bYes]
    dsimp only
    rw [app_ok (args1 (varQ (List.getElem?_set_self (by rw [List.length_set, hl]; decide)) rm.q)) rm.tup, bind_ok]) (acc := [])
  rw [← z1] at c
  have e : ((ds.zip rs).filterMap fun p => some (D.ktup (I p.2))) = K rs := by
    rw [List.filterMap_eq_map']
    conv => rhs; rw [z2]
    rw [K, List.map_map]
    rfl
  rw [e, List.nil_append] at c
  rw [ap_eComp, ap_iPlain, hm, bind_ok]
  have hi : iterD S (.lst ds) = some ⟨ds, []⟩ := rfl
  rw [hi]
  dsimp only
  rw [bind_ok]
  show (compF _ _ ds [] S).bind _ = _
  rw [c, bind_ok, mkL_f]
theorem py_K {rs : List (List Int)} : ∃ p, toPy S dpt (.lst (K rs)) = some p ∧ p.canLay0 = true := by
  refine ⟨.list (rs.map fun r => .tuple (r.map .int)), ?_, ?_⟩
  · have : mapO (toPy S 11) (K rs) = some (rs.map fun r => PyData.tuple (r.map .int)) := mapO_map fun r _ => by
      show (mapO (toPy S 10) (I r)).map PyData.tuple = _
      rw [show mapO (toPy S 10) (I r) = some (r.map .int) from py_ints]
      rfl
    show (mapO (toPy S 11) (K rs)).map PyData.list = _
    rw [this]
    rfl
  · simp only [PyData.canLay0]
    induction rs with
    | nil => rfl
    | cons r rs ih => simp only [List.map_cons, PyData.canLayAll0, PyData.canLay0, can_ints, Bool.true_and]; exact ih
theorem add_dd {a b : List D} (h : a.length + b.length ≤ 1000) : fAdd (.lst a) (.lst b) S = .ok (.lst (a ++ b)) S := add_ll (big_size (by omega))
theorem Rws.append {ds' : List D} {rs' : List (List Int)} : ∀ {ds : List D} {rs : List (List Int)}, Rws S ds rs → Rws S ds' rs' → Rws S (ds ++ ds') (rs ++ rs')
  | [], [], _, h => h
  | d :: ds, r :: rs, h, h' => ⟨h.1, Rws.append h.2 h'⟩
  | [], _ :: _, h, _ => h.elim
  | _ :: _, [], h, _ => h.elim
theorem rws_K : ∀ {rs : List (List Int)}, Rws S (K rs) rs
  | [] => trivial
  | r :: rs => ⟨.inr rfl, rws_K⟩
theorem VRs.rms {n : Nat} (h : VRs S n ds rs) (h1 : 1 ≤ n) (h12 : n ≤ 12) : Rms S n ds rs := by
  refine ⟨h.1.len, fun i hi => ?_, h.2, h1, h12⟩
  have go : ∀ {ds : List D} {rs : List (List Int)}, Rws S ds rs → ∀ i (h : i < rs.length), ∃ d, ds[i]? = some d ∧ Rm S d rs[i] := by
    intro ds rs
    induction ds generalizing rs with
    | nil =>
      intro h i hi
      cases rs with
      | nil => simp at hi
      | cons => exact h.elim
    | cons d ds ih =>
      intro h i hi
      cases rs with
      | nil => exact h.elim
      | cons r rs =>
        cases i with
        | zero => exact ⟨d, rfl, h.1⟩
        | succ i =>
          obtain ⟨d', q1, q2⟩ := ih h.2 i (by simpa using hi)
          exact ⟨d', by simpa using q1, by simpa using q2⟩
  exact go h.1 i hi
/-! spoiling -/
def Cs (G : Store) (is : Nat → Nat) (X : Nat → List Int) : Prop := ∀ j, j < 4 → G[is j]? = some (some (.lst (I (X j))))
abbrev Ls (is : Nat → Nat) : List D := [.loc (0 + 1 + is 0), .loc (0 + 1 + is 1), .loc (0 + 1 + is 2), .loc (0 + 1 + is 3)]
abbrev Sg (G : Store) : Store := [] ++ none :: G
theorem Cs.get {G : Store} {is : Nat → Nat} {X : Nat → List Int} (h : Cs G is X) {j : Nat} (hj : j < 4) : (Sg G)[0 + 1 + is j]? = some (some (.lst (I (X j)))) := by
  have := at_get (S := []) (c := none) (G := G) (i := is j)
  rw [List.length_nil] at this
  rw [this]
  exact h j hj
theorem Cs.rws {G : Store} {is : Nat → Nat} {X : Nat → List Int} (h : Cs G is X) : Rws (Sg G) (Ls is) [X 0, X 1, X 2, X 3] :=
  ⟨.inl (asL_loc (h.get (by decide))), .inl (asL_loc (h.get (by decide))), .inl (asL_loc (h.get (by decide))), .inl (asL_loc (h.get (by decide))), trivial⟩
theorem ls_at {is : Nat → Nat} {j : Nat} (hj : j < 4) : (Ls is)[j]? = some (.loc (0 + 1 + is j)) := by
  match j, hj with
  | 0, _ => rfl
  | 1, _ => rfl
  | 2, _ => rfl
  | 3, _ => rfl
theorem spoil_step {G : Store} {is : Nat → Nat} {X : Nat → List Int} {vs : List Int} {a b c e : Nat} (h : Cs G is X) (inj : ∀ i j, i < 4 → j < 4 → is i = is j → i = j) (h2 : env[2]? = some (some (.lst (Ls is)))) (h6 : env[6]? = some (some (.lst (I vs)))) (ha : a < vs.length) (hb : b < vs.length) (hc : c < vs.length) (he : e < vs.length)
    {j k : Nat} (hj : vs[a] = (j : Nat)) (hj4 : j < 4) (hk : vs[c] = (k : Nat)) (hkn : k < (X j).length) (hz : (X j).length ≤ 1000) {ia ib ic ie : Int} (qa : ia = (a : Nat)) (qb : ib = (b : Nat)) (qc : ic = (c : Nat)) (qe : ie = (e : Nat)) :
    ∃ G' X', Cs G' is X' ∧ (∀ i, i ≠ j → X' i = X i) ∧ sExpr (eApp f_law_spoilt [(eBin fIx (eVar 2) (eBin fIx (eVar 6) (eC (.int ia)))), (eBin fIx (eVar 6) (eC (.int ib))), (eBin fIx (eVar 6) (eC (.int ic))), (eBin fIx (eVar 6) (eC (.int ie)))]) env (Sg G) = .nx env (Sg G') := by
  subst qa qb qc qe
  have ix : ∀ i (hi : i < vs.length), eBin fIx (eVar 6) (eC (.int (i : Nat))) env (Sg G) = .ok (.int vs[i]) (Sg G) := fun i hi => by
    rw [ap_eBin, var_lst h6, bind_ok, ap_eC, bind_ok, ixI (xs := vs) rfl hi]
  have i2 : eBin fIx (eVar 2) (eBin fIx (eVar 6) (eC (.int (a : Nat)))) env (Sg G) = .ok (.loc (0 + 1 + is j)) (Sg G) := by
    rw [ap_eBin, var_lst h2, bind_ok, ix a ha, bind_ok, hj, ix_Q (ds := Ls is) rfl (ls_at hj4)]
  refine ⟨G.set (is j) (some (.lst (I (spoil (X j) vs[b] k vs[e])))), fun i => if i = j then spoil (X j) vs[b] k vs[e] else X i, fun i hi => ?_, fun i hi => if_neg hi, ?_⟩
  · dsimp only
    by_cases q : i = j
    · subst q
      rw [if_pos rfl]
      exact List.getElem?_set_self (List.getElem?_eq_some_iff.mp (h i hi)).1
    · rw [if_neg q, List.getElem?_set_ne (fun z => q (inj i j hi hj4 z.symm))]
      exact h i hi
  · have sp := law_spoilt_spec (S := Sg G) (l := 0 + 1 + is j) (xs := X j) (f := vs[b]) (m := vs[e]) (h := k) (h.get hj4) hkn hz
    have ic := ix c hc
    rw [hk] at ic
    have st := at_set (S := []) (c := none) (x := some (.lst (I (spoil (X j) vs[b] k vs[e])))) (G := G) (i := is j)
    rw [List.length_nil] at st
    rw [ap_sExpr, ap_eApp, ap_cons, i2, bind_ok, args3 (ix b hb) ic (ix e he), bind_ok, bind_ok, sp, R.then_ok]
    rw [show (Sg G).set (0 + 1 + is j) (some (.lst (I (spoil (X j) vs[b] k vs[e])))) = Sg (G.set (is j) (some (.lst (I (spoil (X j) vs[b] k vs[e]))))) from st]
end
end K02
/-! ## P03b -/
set_option Elab.async false
set_option linter.all false
set_option maxRecDepth 100000
set_option maxHeartbeats 1000000
namespace K02
open PySem PySem.Spec
open PyProof.Rows hiding St
open L2 EV0 EV
section
variable {S : Store}
noncomputable abbrev nmB : SM := (sIf (bOf (eBin fNe (eApp f_law_outcome [(eVar 8), (eVar 2)]) (eApp f_law_expected [(eVar 8), (eVar 2)]))) (sRet (eC (.bl false))) sNext)
noncomputable abbrev nmF : SM := (sFor (iPlain (eLst false [(eC (.str "free")), (eC (.str "states")), (eC (.str "within")), (eC (.str "meet")), (eC (.str "join")), (eC (.str "late meet")), (eC (.str "late join"))])) (gVar 8) nmB sNext)
theorem names_loop {G : Store} {is : Nat → Nat} {X : Nat → List Int} (h : Cs G is X) {e0 e1 e3 e4 e5 e6 e7 e9 e10 : Option D} : ∃ o8, nmF [e0, e1, some (.lst (Ls is)), e3, e4, e5, e6, e7, none, e9, e10] (Sg G) = .nx [e0, e1, some (.lst (Ls is)), e3, e4, e5, e6, e7, o8, e9, e10] (Sg G) := by
  have ne := names_eq (S := Sg G) (a := .loc (0 + 1 + is 0)) (b := .loc (0 + 1 + is 1)) (c := .loc (0 + 1 + is 2)) (d := .loc (0 + 1 + is 3)) (x1 := X 0) (x2 := X 1) (x3 := X 2) (x4 := X 3) (asL_loc (h.get (by decide))) (.inl (asL_loc (h.get (by decide)))) (.inl (asL_loc (h.get (by decide)))) (.inl (asL_loc (h.get (by decide))))
  generalize Sg G = T at *
  obtain ⟨env', ⟨o8, rfl⟩, q⟩ := loop_true (it := ⟨([("free" : PySem.Str), "states", "within", "meet", "join", "late meet", "late join"] : List PySem.Str).map D.str, []⟩) (els := sNext) (body := turnF (gVar 8) nmB) (P := fun env => ∃ o8, env = [e0, e1, some (.lst (Ls is)), e3, e4, e5, e6, e7, o8, e9, e10]) (S := T) gOk_nils (ds := ([("free" : PySem.Str), "states", "within", "meet", "join", "late meet", "late join"] : List PySem.Str).map D.str) (fun env d ⟨o8, pe⟩ hd => by
    subst pe
    obtain ⟨n, hn, rfl⟩ := List.mem_map.mp hd
    obtain ⟨A, q1, q2, q3⟩ := ne n hn
    have g8 : gVar 8 (.str n) [e0, e1, some (.lst (Ls is)), e3, e4, e5, e6, e7, o8, e9, e10] T = .ok [e0, e1, some (.lst (Ls is)), e3, e4, e5, e6, e7, some (.str n), e9, e10] T := rfl
    refine ⟨[e0, e1, some (.lst (Ls is)), e3, e4, e5, e6, e7, some (.str n), e9, e10], ?_, some (.str n), rfl⟩
    rw [ap_turnF, g8]
    show nmB _ _ = _
    have t : bOf (eBin fNe (eApp f_law_outcome [(eVar 8), (eVar 2)]) (eApp f_law_expected [(eVar 8), (eVar 2)])) [e0, e1, some (.lst (Ls is)), e3, e4, e5, e6, e7, some (.str n), e9, e10] T = .ok false T := by
      rw [ap_bOf, ap_eBin, app_ok (args2 (var_str rfl) (var_lst rfl)) q1, bind_ok, app_ok (args2 (var_str rfl) (var_lst rfl)) q2, bind_ok, q3, bind_ok]
    unfold nmB
    rw [ap_sIf, t]
    rfl) ⟨none, rfl⟩
  refine ⟨o8, ?_⟩
  unfold nmF
  rw [ap_sFor]
  exact q
theorem drawn_at {ss vs : List Int} (h : Drawn ss vs) (i : Nat) {s : Int} (hi : ss[i]? = some s) : ∃ v, vs[i]? = some v ∧ 0 ≤ v ∧ v < s := by
  obtain ⟨hl, hb⟩ := h
  obtain ⟨h1, rfl⟩ := List.getElem?_eq_some_iff.mp hi
  exact ⟨vs[i], by simp [hl, h1], hb i (by omega) h1⟩
/-- the second rooms' script -/
theorem more_cells {ns : List Int} {env : EV.Env} (h : asQ S (.scr (I ns)) = some (I ns)) (h0 : env[0]? = some (some (.scr (I ns)))) (hl : env.length = 11) : ∃ cs : List Int, eBin fAdd (eLst false [(eC (.int 0))]) (eComp false (iPlain (eTup [(eC (.int 1)), (eC (.int 2)), (eC (.int 8)), (eC (.int 9)), (eC (.int 10)), (eC (.int 6))])) (gVar 10) bYes (eApp f_law_cell [(eVar 0), (eVar 10)]) [10]) env S = .ok (.lst (I cs)) S := by
  have c := comp_map (it := ⟨([1, 2, 8, 9, 10, 6] : List Nat).map fun (k : Nat) => D.int k, []⟩) (S := S) (F := itemF (gVar 10) bYes (eApp f_law_cell [(eVar 0), (eVar 10)]) (wipeE env [10])) (fun (k : Nat) => D.int k) (fun k => some (D.int (ns.getD k 0))) (l := [1, 2, 8, 9, 10, 6]) gOk_nils (fun k hk => by
    have w : wipeE env [10] = env.set 10 none := rfl
    have g : gVar 10 (.int (k : Nat)) (env.set 10 none) S = .ok ((env.set 10 none).set 10 (some (.int (k : Nat)))) S := by rw [ap_gVar, if_pos (by rw [List.length_set, hl]; decide)]
    rw [w, ap_itemF, g]
    dsimp only
    rw [ap_bYes]
    dsimp only
    have v0 : eVar 0 ((env.set 10 none).set 10 (some (.int (k : Nat)))) S = .ok (.scr (I ns)) S := varQ (by rw [List.getElem?_set_ne (by decide), List.getElem?_set_ne (by decide)]; exact h0) h
    rw [app_ok (args2 v0 (var_int (List.getElem?_set_self (by rw [List.length_set, hl]; decide)))) (law_cell_spec h), bind_ok]) (acc := [])
  have it : iPlain (eTup [(eC (.int 1)), (eC (.int 2)), (eC (.int 8)), (eC (.int 9)), (eC (.int 10)), (eC (.int 6))]) env S = .ok ⟨([1, 2, 8, 9, 10, 6] : List Nat).map fun (k : Nat) => D.int k, []⟩ S := rfl
  have e : (([1, 2, 8, 9, 10, 6] : List Nat).filterMap fun k => some (D.int (ns.getD k 0))) = I (([1, 2, 8, 9, 10, 6] : List Nat).map fun k => ns.getD k 0) := rfl
  rw [e] at c
  refine ⟨0 :: (([1, 2, 8, 9, 10, 6] : List Nat).map fun k => ns.getD k 0), ?_⟩
  rw [ap_eBin, lst_ok (args1 ap_eC), bind_ok, ap_eComp, it, bind_ok, c, bind_ok, mkL_f, bind_ok, List.nil_append, add_dd (by simp)]
  rfl
theorem bool_ok {A : EM} {env : EV.Env} (h : A env S = .ok (.bl true) S) : bNot (bTru A) env S = .ok false S := by
  rw [ap_bNot, ap_bTru, h, bind_ok]
  rfl
theorem if_fine {t : BM} {a : SM} {env : EV.Env} (h : t env S = .ok false S) : sIf t a sNext env S = .nx env S := by
  rw [ap_sIf, h]
  rfl
theorem or_fine {t u : BM} {env : EV.Env} (h : t env S = .ok false S) (h' : u env S = .ok false S) : bOr t u env S = .ok false S := by
  rw [ap_bOr, h, bind_ok, if_neg (by decide), h']
end
end K02
/-! ## P03c -/
set_option Elab.async false
set_option linter.all false
set_option maxRecDepth 100000
set_option maxHeartbeats 2000000
namespace K02
open PySem PySem.Spec
open PyProof.Rows hiding St
open L2 EV0 EV
theorem vr_of {S : Store} {n : Nat} {d : D} {x : List Int} {l : Nat} (hd : d = .loc l) (h : S[l]? = some (some (.lst (I x)))) (hx : x.length = n ∧ x.all okM = true) : VR S n d x := by
  subst hd
  exact ⟨.inl (asL_loc h), hx.1, hx.2⟩
theorem VR.app {S g : Store} {n : Nat} {d : D} {x : List Int} (h : VR S n d x) : VR (S ++ g) n d x := ⟨Rm.app h.rm, h.len, h.ok⟩
theorem law_true (ns : List Int) : ∃ S, f_law [.scr (ns.map .int)] [] = .ok (.bl true) S := by
  have e0 : env0 11 [.scr (I ns)] = [some (.scr (I ns)), none, none, none, none, none, none, none, none, none, none] := rfl
  have hq : ∀ T : Store, asQ T (.scr (I ns)) = some (I ns) := fun T => rfl
  have cl : ∀ {T : Store} {e : EV.Env} (k : Nat) {j : Int}, j = (k : Nat) → e[0]? = some (some (.scr (I ns))) → eApp f_law_cell [(eVar 0), (eC (.int j))] e T = .ok (.int (ns.getD k 0)) T := fun {T e} k {j} hj h => app_ok (args2 (var_scr h) ap_eC) (lc k hj (hq T))
  obtain ⟨n, hn⟩ : ∃ n : Nat, n = 1 + (ns.getD 0 0 % 12).toNat := ⟨_, rfl⟩
  have hn1 : 1 ≤ n := by omega
  have h12 : n ≤ 12 := by omega
  have s1 : sAsg (eBin fAdd (eC (.int 1)) (eBin fMod (eApp fInt [(eApp f_law_cell [(eVar 0), (eC (.int 0))])]) (eC (.int 12)))) (gVar 1) [some (.scr (I ns)), none, none, none, none, none, none, none, none, none, none] [] = .nx [some (.scr (I ns)), some (.int (n : Nat)), none, none, none, none, none, none, none, none, none] [] := by
    have c0 : eApp f_law_cell [(eVar 0), (eC (.int 0))] [some (.scr (I ns)), none, none, none, none, none, none, none, none, none, none] [] = .ok (.int (ns.getD 0 0)) [] := cl 0 rfl rfl
    rw [ap_sAsg, ap_eBin, ap_eC, bind_ok, ap_eBin, app_ok (args1 c0) int_i, bind_ok, ap_eC, bind_ok, mod_ii (by decide), bind_ok, add_ii]
    have : (1 : Int) + ns.getD 0 0 % 12 = (n : Nat) := by omega
    rw [this]
    rfl
  obtain ⟨G1, p1, p2, p3, p4, a1, a2, a3, a4, l12, l23, l34, R1⟩ := law_rooms_spec (S := []) (d := .scr (I ns)) (ns := ns) (n := n) (fun g => hq _) hn1 h12
  obtain ⟨is, his⟩ : ∃ is : Nat → Nat, is = fun j => [p1.1, p2.1, p3.1, p4.1].getD j 0 := ⟨_, rfl⟩
  obtain ⟨X, hX⟩ : ∃ X : Nat → List Int, X = fun j => [p1.2, p2.2, p3.2, p4.2].getD j [] := ⟨_, rfl⟩
  have hC1 : Cs G1 is X := fun j hj => by
    subst his hX
    match j, hj with
    | 0, _ => exact a1.1
    | 1, _ => exact a2.1
    | 2, _ => exact a3.1
    | 3, _ => exact a4.1
  have hXo : ∀ j, j < 4 → (X j).length = n ∧ (X j).all okM = true := fun j hj => by
    subst hX
    match j, hj with
    | 0, _ => exact a1.2
    | 1, _ => exact a2.2
    | 2, _ => exact a3.2
    | 3, _ => exact a4.2
  have inj : ∀ i j, i < 4 → j < 4 → is i = is j → i = j := fun i j hi hj h => by
    subst his
    match i, j, hi, hj with
    | 0, 0, _, _ => rfl
    | 1, 1, _, _ => rfl
    | 2, 2, _, _ => rfl
    | 3, 3, _, _ => rfl
    | 0, 1, _, _ => simp at h; omega
    | 0, 2, _, _ => simp at h; omega
    | 0, 3, _, _ => simp at h; omega
    | 1, 0, _, _ => simp at h; omega
    | 1, 2, _, _ => simp at h; omega
    | 1, 3, _, _ => simp at h; omega
    | 2, 0, _, _ => simp at h; omega
    | 2, 1, _, _ => simp at h; omega
    | 2, 3, _, _ => simp at h; omega
    | 3, 0, _, _ => simp at h; omega
    | 3, 1, _, _ => simp at h; omega
    | 3, 2, _, _ => simp at h; omega
  have R1' : f_law_rooms [.scr (I ns), .int (n : Nat)] [] = .ok (.lst (Ls is)) (Sg G1) := by
    rw [R1, his]
    rfl
  clear R1
  have s2 : sAsg (eApp f_law_rooms [(eVar 0), (eVar 1)]) (gVar 2) [some (.scr (I ns)), some (.int (n : Nat)), none, none, none, none, none, none, none, none, none] [] = .nx [some (.scr (I ns)), some (.int (n : Nat)), some (.lst (Ls is)), none, none, none, none, none, none, none, none] (Sg G1) := by
    rw [ap_sAsg, app_ok (args2 (var_scr rfl) (var_int rfl)) R1']
    rfl
  have V1 : ∀ {g : Store} j, j < 4 → VR (Sg G1 ++ g) n (.loc (0 + 1 + is j)) (X j) := fun {g} j hj => (vr_of rfl (hC1.get hj) (hXo j hj)).app
  obtain ⟨L1, hL1⟩ : ∃ L1, L1 = Ls is := ⟨_, rfl⟩
  obtain ⟨K1, hK1⟩ : ∃ K1, K1 = [X 0, X 1, X 2, X 3] := ⟨_, rfl⟩
  have VV1 : ∀ {g : Store}, VRs (Sg G1 ++ g) n L1 K1 := fun {g} => by
    subst hL1 hK1
    exact VRs.cons (V1 0 (by decide)) (VRs.cons (V1 1 (by decide)) (VRs.cons (V1 2 (by decide)) (VRs.one (V1 3 (by decide)))))
  have VV1n : VRs (Sg G1) n L1 K1 := by
    have := VV1 (g := [])
    rw [List.append_nil] at this
    exact this
  have V1n : ∀ j, j < 4 → VR (Sg G1) n (.loc (0 + 1 + is j)) (X j) := fun j hj => by
    have := V1 (g := []) j hj
    rw [List.append_nil] at this
    exact this
  rw [← hL1] at s2
  have s3 : sAsg (eComp false (iPlain (eVar 2)) (gVar 9) bYes (eApp fTupleK [(eVar 9)]) [9]) (gVar 3) [some (.scr (I ns)), some (.int (n : Nat)), some (.lst L1), none, none, none, none, none, none, none, none] (Sg G1) = .nx [some (.scr (I ns)), some (.int (n : Nat)), some (.lst L1), some (.lst (K K1)), none, none, none, none, none, none, none] (Sg G1) := by
    rw [ap_sAsg, tups (var_lst rfl) VV1n.1 rfl]
    rfl
  have s4 : sIf (bNot (bTru (eApp f_law_lone_answers [(eVar 2)]))) (sRet (eC (.bl false))) sNext [some (.scr (I ns)), some (.int (n : Nat)), some (.lst L1), some (.lst (K K1)), none, none, none, none, none, none, none] (Sg G1) = .nx [some (.scr (I ns)), some (.int (n : Nat)), some (.lst L1), some (.lst (K K1)), none, none, none, none, none, none, none] (Sg G1) :=
    if_fine (bool_ok (app_ok (args1 (var_lst rfl)) (lone_answers_spec (VV1n.rms hn1 h12))))
  have ixL : ∀ {T : Store} {e : EV.Env} (j : Nat) {i : Int}, i = (j : Nat) → j < 4 → e[2]? = some (some (.lst L1)) → eBin fIx (eVar 2) (eC (.int i)) e T = .ok (.loc (0 + 1 + is j)) T := fun {T e} j {i} hi hj h => by
    rw [hi, ap_eBin, var_lst h, bind_ok, ap_eC, bind_ok, ix_Q (ds := L1) rfl (by rw [hL1]; exact ls_at hj)]
  have s5 : sIf (bOr (bNot (bTru (eApp f_law_meets [(eBin fIx (eVar 2) (eC (.int 0))), (eBin fIx (eVar 2) (eC (.int 1))), (eBin fIx (eVar 2) (eC (.int 2)))]))) (bNot (bTru (eApp f_law_meets [(eBin fIx (eVar 2) (eC (.int 3))), (eBin fIx (eVar 2) (eC (.int 3))), (eBin fIx (eVar 2) (eC (.int 1)))])))) (sRet (eC (.bl false))) sNext [some (.scr (I ns)), some (.int (n : Nat)), some (.lst L1), some (.lst (K K1)), none, none, none, none, none, none, none] (Sg G1) = .nx [some (.scr (I ns)), some (.int (n : Nat)), some (.lst L1), some (.lst (K K1)), none, none, none, none, none, none, none] (Sg G1) :=
    if_fine (or_fine (bool_ok (app_ok (args3 (ixL 0 rfl (by decide) rfl) (ixL 1 rfl (by decide) rfl) (ixL 2 rfl (by decide) rfl)) (law_meets_spec (V1n 0 (by decide)) (V1n 1 (by decide)) (V1n 2 (by decide)) hn1 h12)))
      (bool_ok (app_ok (args3 (ixL 3 rfl (by decide) rfl) (ixL 3 rfl (by decide) rfl) (ixL 1 rfl (by decide) rfl)) (law_meets_spec (V1n 3 (by decide)) (V1n 3 (by decide)) (V1n 1 (by decide)) hn1 h12))))
  obtain ⟨cs, hcs⟩ := more_cells (S := Sg G1) (ns := ns) (env := [some (.scr (I ns)), some (.int (n : Nat)), some (.lst L1), some (.lst (K K1)), none, none, none, none, none, none, none]) rfl rfl rfl
  obtain ⟨G2, q1, q2, q3, q4, b1, b2, b3, b4, m12, m23, m34, R2⟩ := law_rooms_spec (S := Sg G1) (d := .lst (I cs)) (ns := cs) (n := n) (fun g => rfl) hn1 h12
  obtain ⟨L2, hL2⟩ : ∃ L2, L2 = [Lo (Sg G1) q1, Lo (Sg G1) q2, Lo (Sg G1) q3, Lo (Sg G1) q4] := ⟨_, rfl⟩
  obtain ⟨K2, hK2⟩ : ∃ K2, K2 = [q1.2, q2.2, q3.2, q4.2] := ⟨_, rfl⟩
  have V2 : ∀ {q : Nat × List Int}, At n G2 q → VR (Sg G1 ++ none :: G2) n (Lo (Sg G1) q) q.2 := fun {q} h => vr_of rfl (by rw [at_get]; exact h.1) h.2
  have VV2 : VRs (Sg G1 ++ none :: G2) n L2 K2 := by
    subst hL2 hK2
    exact VRs.cons (V2 b1) (VRs.cons (V2 b2) (VRs.cons (V2 b3) (VRs.one (V2 b4))))
  rw [← hL2] at R2
  have s6 : sAsg (eApp f_law_rooms [(eBin fAdd (eLst false [(eC (.int 0))]) (eComp false (iPlain (eTup [(eC (.int 1)), (eC (.int 2)), (eC (.int 8)), (eC (.int 9)), (eC (.int 10)), (eC (.int 6))])) (gVar 10) bYes (eApp f_law_cell [(eVar 0), (eVar 10)]) [10])), (eVar 1)]) (gVar 4) [some (.scr (I ns)), some (.int (n : Nat)), some (.lst L1), some (.lst (K K1)), none, none, none, none, none, none, none] (Sg G1) = .nx [some (.scr (I ns)), some (.int (n : Nat)), some (.lst L1), some (.lst (K K1)), some (.lst L2), none, none, none, none, none, none] (Sg G1 ++ none :: G2) := by
    rw [ap_sAsg, app_ok (args2 hcs (var_int rfl)) R2]
    rfl
  have hT : Sg G1 ++ none :: G2 = Sg (G1 ++ none :: G2) := rfl
  have VV1' := VV1 (g := none :: G2)
  generalize hG : G1 ++ none :: G2 = G at hT
  have hC : Cs G is X := fun j hj => by
    rw [← hG, List.getElem?_append_left (List.getElem?_eq_some_iff.mp (hC1 j hj)).1]
    exact hC1 j hj
  rw [hT] at s6 VV2 VV1'
  clear hcs R2 V2 b1 b2 b3 b4 V1 V1n VV1 VV1n
  have s7 : sAsg (eComp false (iPlain (eVar 4)) (gVar 9) bYes (eApp fTupleK [(eVar 9)]) [9]) (gVar 5) [some (.scr (I ns)), some (.int (n : Nat)), some (.lst L1), some (.lst (K K1)), some (.lst L2), none, none, none, none, none, none] (Sg G) = .nx [some (.scr (I ns)), some (.int (n : Nat)), some (.lst L1), some (.lst (K K1)), some (.lst L2), some (.lst (K K2)), none, none, none, none, none] (Sg G) := by
    rw [ap_sAsg, tups (var_lst rfl) VV2.1 rfl]
    rfl
  have len1 : L1.length = 4 := by rw [hL1]; rfl
  have len2 : L2.length = 4 := by rw [hL2]; rfl
  have many : f_law_many [.lst (L1 ++ L2)] (Sg G) = .ok (.bl true) (Sg G) := by
    have v : VRs (Sg G) n (L1 ++ L2) (K1 ++ K2) := ⟨VV1'.1.append VV2.1, fun r hr => (List.mem_append.mp hr).elim (VV1'.2 r) (VV2.2 r)⟩
    rw [hL1, hL2, hK1, hK2] at v
    rw [hL1, hL2]
    exact law_many_spec v hn1 h12
  have KK : K K1 ++ K K2 = K (K1 ++ K2) := by simp [K]
  have s8 : sIf (bOr (bNot (bTru (eApp f_law_many [(eBin fAdd (eVar 2) (eVar 4))]))) (bOf (eBin fNe (eComp false (iPlain (eBin fAdd (eVar 2) (eVar 4))) (gVar 9) bYes (eApp fTupleK [(eVar 9)]) [9]) (eBin fAdd (eVar 3) (eVar 5))))) (sRet (eC (.bl false))) sNext [some (.scr (I ns)), some (.int (n : Nat)), some (.lst L1), some (.lst (K K1)), some (.lst L2), some (.lst (K K2)), none, none, none, none, none] (Sg G) = .nx [some (.scr (I ns)), some (.int (n : Nat)), some (.lst L1), some (.lst (K K1)), some (.lst L2), some (.lst (K K2)), none, none, none, none, none] (Sg G) := by
    have add : eBin fAdd (eVar 2) (eVar 4) [some (.scr (I ns)), some (.int (n : Nat)), some (.lst L1), some (.lst (K K1)), some (.lst L2), some (.lst (K K2)), none, none, none, none, none] (Sg G) = .ok (.lst (L1 ++ L2)) (Sg G) := by
      rw [ap_eBin, var_lst rfl, bind_ok, var_lst rfl, bind_ok, add_dd (by omega)]
    have add2 : eBin fAdd (eVar 3) (eVar 5) [some (.scr (I ns)), some (.int (n : Nat)), some (.lst L1), some (.lst (K K1)), some (.lst L2), some (.lst (K K2)), none, none, none, none, none] (Sg G) = .ok (.lst (K (K1 ++ K2))) (Sg G) := by
      rw [ap_eBin, var_lst rfl, bind_ok, var_lst rfl, bind_ok, add_dd (by rw [hK1, hK2]; simp), KK]
    refine if_fine (or_fine (bool_ok (app_ok (args1 add) many)) ?_)
    rw [ap_bOf, ap_eBin, tups add (VV1'.1.append VV2.1) rfl, bind_ok, add2, bind_ok, ans_ne (o := none) py_K, bind_ok]
  -- spoilt rows
  obtain ⟨vs, dv, hv⟩ := law_draws_spec (S := Sg G) (d := .lst (I [3, 6, (n : Int), 50, 4, 3, 6, (n : Int), 50])) (ss := [3, 6, (n : Int), 50, 4, 3, 6, (n : Int), 50]) (c := ns.getD 7 0) rfl (by simp) (fun s hs => by
    simp only [List.mem_cons, List.not_mem_nil, or_false] at hs
    omega)
  have lv : vs.length = 9 := dv.1
  have s9 : sAsg (eApp f_law_draws [(eApp f_law_cell [(eVar 0), (eC (.int 7))]), (eLst false [(eC (.int 3)), (eC (.int 6)), (eVar 1), (eC (.int 50)), (eC (.int 4)), (eC (.int 3)), (eC (.int 6)), (eVar 1), (eC (.int 50))])]) (gVar 6) [some (.scr (I ns)), some (.int (n : Nat)), some (.lst L1), some (.lst (K K1)), some (.lst L2), some (.lst (K K2)), none, none, none, none, none] (Sg G) = .nx [some (.scr (I ns)), some (.int (n : Nat)), some (.lst L1), some (.lst (K K1)), some (.lst L2), some (.lst (K K2)), some (.lst (I vs)), none, none, none, none] (Sg G) := by
    have c7 : eApp f_law_cell [(eVar 0), (eC (.int 7))] [some (.scr (I ns)), some (.int (n : Nat)), some (.lst L1), some (.lst (K K1)), some (.lst L2), some (.lst (K K2)), none, none, none, none, none] (Sg G) = .ok (.int (ns.getD 7 0)) (Sg G) := cl 7 rfl rfl
    have ls : eLst false [(eC (.int 3)), (eC (.int 6)), (eVar 1), (eC (.int 50)), (eC (.int 4)), (eC (.int 3)), (eC (.int 6)), (eVar 1), (eC (.int 50))] [some (.scr (I ns)), some (.int (n : Nat)), some (.lst L1), some (.lst (K K1)), some (.lst L2), some (.lst (K K2)), none, none, none, none, none] (Sg G) = .ok (.lst (I [3, 6, (n : Int), 50, 4, 3, 6, (n : Int), 50])) (Sg G) := rfl
    rw [ap_sAsg, app_ok (args2 c7 ls) hv]
    rfl
  have vat : ∀ i (hi : i < vs.length) {s : Int}, [3, 6, (n : Int), 50, 4, 3, 6, (n : Int), 50][i]? = some s → 0 ≤ vs[i] ∧ vs[i] < s := fun i hi {s} h => by
    obtain ⟨v, h1, h2⟩ := drawn_at dv i h
    rw [List.getElem?_eq_getElem hi] at h1
    cases h1
    exact h2
  have w0 := vat 0 (by omega) rfl
  have w2 := vat 2 (by omega) rfl
  have w5 := vat 5 (by omega) rfl
  have w7 := vat 7 (by omega) rfl
  have hj0 : vs[0] = ((vs[0].toNat : Nat) : Int) := by omega
  have hj5 : vs[5] = ((vs[5].toNat : Nat) : Int) := by omega
  obtain ⟨GA, XA, CA, XA2, s10⟩ := spoil_step (env := [some (.scr (I ns)), some (.int (n : Nat)), some (.lst L1), some (.lst (K K1)), some (.lst L2), some (.lst (K K2)), some (.lst (I vs)), none, none, none, none]) (vs := vs) (a := 0) (b := 1) (c := 2) (e := 3) (ia := 0) (ib := 1) (ic := 2) (ie := 3) (j := vs[0].toNat) (k := vs[2].toNat) hC inj (by rw [hL1]; rfl) rfl (by omega) (by omega) (by omega) (by omega) hj0 (by omega) (by omega) (by rw [(hXo _ (by omega)).1]; omega) (by rw [(hXo _ (by omega)).1]; omega) rfl rfl rfl rfl
  have s11 : ∃ GB XB, Cs GB is XB ∧ sIf (bAnd (bOf (eBin fEq (eBin fIx (eVar 6) (eC (.int 4))) (eC (.int 0)))) (bOf (eBin fNe (eBin fIx (eVar 6) (eC (.int 5))) (eBin fIx (eVar 6) (eC (.int 0)))))) (sExpr (eApp f_law_spoilt [(eBin fIx (eVar 2) (eBin fIx (eVar 6) (eC (.int 5)))), (eBin fIx (eVar 6) (eC (.int 6))), (eBin fIx (eVar 6) (eC (.int 7))), (eBin fIx (eVar 6) (eC (.int 8)))])) sNext [some (.scr (I ns)), some (.int (n : Nat)), some (.lst L1), some (.lst (K K1)), some (.lst L2), some (.lst (K K2)), some (.lst (I vs)), none, none, none, none] (Sg GA) = .nx [some (.scr (I ns)), some (.int (n : Nat)), some (.lst L1), some (.lst (K K1)), some (.lst L2), some (.lst (K K2)), some (.lst (I vs)), none, none, none, none] (Sg GB) := by
    have ix : ∀ (i : Nat) (hi : i < vs.length) {z : Int}, z = (i : Nat) → eBin fIx (eVar 6) (eC (.int z)) [some (.scr (I ns)), some (.int (n : Nat)), some (.lst L1), some (.lst (K K1)), some (.lst L2), some (.lst (K K2)), some (.lst (I vs)), none, none, none, none] (Sg GA) = .ok (.int vs[i]) (Sg GA) := fun i hi {z} hz => by
      rw [hz, ap_eBin, var_lst rfl, bind_ok, ap_eC, bind_ok, ixI (xs := vs) rfl hi]
    have i4 := ix 4 (by omega) (z := 4) rfl
    have i5 := ix 5 (by omega) (z := 5) rfl
    have i0 := ix 0 (by omega) (z := 0) rfl
    have t : bAnd (bOf (eBin fEq (eBin fIx (eVar 6) (eC (.int 4))) (eC (.int 0)))) (bOf (eBin fNe (eBin fIx (eVar 6) (eC (.int 5))) (eBin fIx (eVar 6) (eC (.int 0))))) [some (.scr (I ns)), some (.int (n : Nat)), some (.lst L1), some (.lst (K K1)), some (.lst L2), some (.lst (K K2)), some (.lst (I vs)), none, none, none, none] (Sg GA) = .ok (decide (vs[4] = 0) && !decide (vs[5] = vs[0])) (Sg GA) := by
      have t1 : bOf (eBin fEq (eBin fIx (eVar 6) (eC (.int 4))) (eC (.int 0))) [some (.scr (I ns)), some (.int (n : Nat)), some (.lst L1), some (.lst (K K1)), some (.lst L2), some (.lst (K K2)), some (.lst (I vs)), none, none, none, none] (Sg GA) = .ok (decide (vs[4] = 0)) (Sg GA) := by
        rw [ap_bOf, ap_eBin, i4, bind_ok, ap_eC, bind_ok, eq_ii, bind_ok]
      have t2 : bOf (eBin fNe (eBin fIx (eVar 6) (eC (.int 5))) (eBin fIx (eVar 6) (eC (.int 0)))) [some (.scr (I ns)), some (.int (n : Nat)), some (.lst L1), some (.lst (K K1)), some (.lst L2), some (.lst (K K2)), some (.lst (I vs)), none, none, none, none] (Sg GA) = .ok (!decide (vs[5] = vs[0])) (Sg GA) := by
        rw [ap_bOf, ap_eBin, i5, bind_ok, i0, bind_ok, ne_ii, bind_ok]
      rw [ap_bAnd, t1, bind_ok]
      cases decide (vs[4] = 0)
      · rfl
      · rw [if_pos rfl, t2]
        rfl
    cases hh : (decide (vs[4] = 0) && !decide (vs[5] = vs[0])) with
    | false => exact ⟨GA, XA, CA, if_fine (by rw [t, hh])⟩
    | true =>
      simp only [Bool.and_eq_true, Bool.not_eq_true', decide_eq_true_eq, decide_eq_false_iff_not] at hh
      have ne : vs[5].toNat ≠ vs[0].toNat := by omega
      obtain ⟨GB, XB, CB, _, s⟩ := spoil_step (env := [some (.scr (I ns)), some (.int (n : Nat)), some (.lst L1), some (.lst (K K1)), some (.lst L2), some (.lst (K K2)), some (.lst (I vs)), none, none, none, none]) (vs := vs) (a := 5) (b := 6) (c := 7) (e := 8) (ia := 5) (ib := 6) (ic := 7) (ie := 8) (j := vs[5].toNat) (k := vs[7].toNat) CA inj (by rw [hL1]; rfl) rfl (by omega) (by omega) (by omega) (by omega) hj5 (by omega) (by omega) (by rw [XA2 _ ne, (hXo _ (by omega)).1]; omega) (by rw [XA2 _ ne, (hXo _ (by omega)).1]; omega) rfl rfl rfl rfl
      refine ⟨GB, XB, CB, ?_⟩
      rw [ap_sIf, t, R.then_ok, if_pos (by simp [hh])]
      exact s
  obtain ⟨GB, XB, CB, s11⟩ := s11
  have rB := CB.rws
  rw [← hL1] at rB
  have s12 : sAsg (eComp false (iPlain (eVar 2)) (gVar 9) bYes (eApp fTupleK [(eVar 9)]) [9]) (gVar 7) [some (.scr (I ns)), some (.int (n : Nat)), some (.lst L1), some (.lst (K K1)), some (.lst L2), some (.lst (K K2)), some (.lst (I vs)), none, none, none, none] (Sg GB) = .nx [some (.scr (I ns)), some (.int (n : Nat)), some (.lst L1), some (.lst (K K1)), some (.lst L2), some (.lst (K K2)), some (.lst (I vs)), some (.lst (K [XB 0, XB 1, XB 2, XB 3])), none, none, none] (Sg GB) := by
    rw [ap_sAsg, tups (var_lst rfl) rB rfl]
    rfl
  obtain ⟨o8, s13⟩ := names_loop CB (e0 := some (.scr (I ns))) (e1 := some (.int (n : Nat))) (e3 := some (.lst (K K1))) (e4 := some (.lst L2)) (e5 := some (.lst (K K2))) (e6 := some (.lst (I vs))) (e7 := some (.lst (K [XB 0, XB 1, XB 2, XB 3]))) (e9 := none) (e10 := none)
  rw [← hL1] at s13
  have s14 : sIf (bOf (eBin fNe (eComp false (iPlain (eVar 2)) (gVar 9) bYes (eApp fTupleK [(eVar 9)]) [9]) (eVar 7))) (sRet (eC (.bl false))) sNext [some (.scr (I ns)), some (.int (n : Nat)), some (.lst L1), some (.lst (K K1)), some (.lst L2), some (.lst (K K2)), some (.lst (I vs)), some (.lst (K [XB 0, XB 1, XB 2, XB 3])), o8, none, none] (Sg GB) = .nx [some (.scr (I ns)), some (.int (n : Nat)), some (.lst L1), some (.lst (K K1)), some (.lst L2), some (.lst (K K2)), some (.lst (I vs)), some (.lst (K [XB 0, XB 1, XB 2, XB 3])), o8, none, none] (Sg GB) := by
    refine if_fine ?_
    rw [ap_bOf, ap_eBin, tups (var_lst rfl) rB rfl, bind_ok, var_lst rfl, bind_ok, ans_ne (o := none) py_K, bind_ok]
  obtain ⟨us, du, hu⟩ := law_draws_spec (S := Sg GB) (d := .lst (I [4, 12, 2, 2, 2, 2, 4, 3])) (ss := [4, 12, 2, 2, 2, 2, 4, 3]) (c := ns.getD 11 0) rfl (by decide) (fun s hs => by
    simp only [List.mem_cons, List.not_mem_nil, or_false] at hs
    omega)
  have s15 : sIf (bNot (bTru (eApp f_law_limits_hold [(eApp f_law_draws [(eApp f_law_cell [(eVar 0), (eC (.int 11))]), (eLst false [(eC (.int 4)), (eC (.int 12)), (eC (.int 2)), (eC (.int 2)), (eC (.int 2)), (eC (.int 2)), (eC (.int 4)), (eC (.int 3))])])]))) (sRet (eC (.bl false))) sNext [some (.scr (I ns)), some (.int (n : Nat)), some (.lst L1), some (.lst (K K1)), some (.lst L2), some (.lst (K K2)), some (.lst (I vs)), some (.lst (K [XB 0, XB 1, XB 2, XB 3])), o8, none, none] (Sg GB) = .nx [some (.scr (I ns)), some (.int (n : Nat)), some (.lst L1), some (.lst (K K1)), some (.lst L2), some (.lst (K K2)), some (.lst (I vs)), some (.lst (K [XB 0, XB 1, XB 2, XB 3])), o8, none, none] (Sg GB) := by
    have c11 : eApp f_law_cell [(eVar 0), (eC (.int 11))] [some (.scr (I ns)), some (.int (n : Nat)), some (.lst L1), some (.lst (K K1)), some (.lst L2), some (.lst (K K2)), some (.lst (I vs)), some (.lst (K [XB 0, XB 1, XB 2, XB 3])), o8, none, none] (Sg GB) = .ok (.int (ns.getD 11 0)) (Sg GB) := cl 11 rfl rfl
    have ls : eLst false [(eC (.int 4)), (eC (.int 12)), (eC (.int 2)), (eC (.int 2)), (eC (.int 2)), (eC (.int 2)), (eC (.int 4)), (eC (.int 3))] [some (.scr (I ns)), some (.int (n : Nat)), some (.lst L1), some (.lst (K K1)), some (.lst L2), some (.lst (K K2)), some (.lst (I vs)), some (.lst (K [XB 0, XB 1, XB 2, XB 3])), o8, none, none] (Sg GB) = .ok (.lst (I [4, 12, 2, 2, 2, 2, 4, 3])) (Sg GB) := rfl
    exact if_fine (bool_ok (app_ok (args1 (app_ok (args2 c11 ls) hu)) (limits_spec du)))
  -- the last row
  have kv : ∀ j, j < 4 → VR (Sg GB) n (.ktup (I (X j))) (X j) := fun j hj => ⟨.inr rfl, (hXo j hj).1, (hXo j hj).2⟩
  have VK1 : VRs (Sg GB) n (K K1) K1 := ⟨rws_K, VV1'.2⟩
  have VK2 : VRs (Sg GB) n (K K1 ++ K K2) (K1 ++ K2) := ⟨rws_K.append rws_K, fun r hr => (List.mem_append.mp hr).elim (VV1'.2 r) (VV2.2 r)⟩
  have manyK : f_law_many [.lst (K K1 ++ K K2)] (Sg GB) = .ok (.bl true) (Sg GB) := by
    rw [hK1, hK2] at VK2 ⊢
    exact law_many_spec VK2 hn1 h12
  have ixK : ∀ {e : EV.Env} (j : Nat) {i : Int}, i = (j : Nat) → j < 4 → e[3]? = some (some (.lst (K K1))) → eBin fIx (eVar 3) (eC (.int i)) e (Sg GB) = .ok (.ktup (I (X j))) (Sg GB) := fun {e} j {i} hi hj h => by
    rw [hi, ap_eBin, var_lst h, bind_ok, ap_eC, bind_ok, ix_Q (ds := K K1) (d := .ktup (I (X j))) rfl (by
      rw [hK1]
      match j, hj with
      | 0, _ => rfl
      | 1, _ => rfl
      | 2, _ => rfl
      | 3, _ => rfl)]
  have s16 : sRet (eAnd (eApp f_law_lone_answers [(eVar 3)]) (eAnd (eApp f_law_meets [(eBin fIx (eVar 3) (eC (.int 0))), (eBin fIx (eVar 3) (eC (.int 1))), (eBin fIx (eVar 3) (eC (.int 2)))]) (eApp f_law_many [(eBin fAdd (eVar 3) (eVar 5))]))) [some (.scr (I ns)), some (.int (n : Nat)), some (.lst L1), some (.lst (K K1)), some (.lst L2), some (.lst (K K2)), some (.lst (I vs)), some (.lst (K [XB 0, XB 1, XB 2, XB 3])), o8, none, none] (Sg GB) = .rt (.bl true) (Sg GB) := by
    have add2 : eBin fAdd (eVar 3) (eVar 5) [some (.scr (I ns)), some (.int (n : Nat)), some (.lst L1), some (.lst (K K1)), some (.lst L2), some (.lst (K K2)), some (.lst (I vs)), some (.lst (K [XB 0, XB 1, XB 2, XB 3])), o8, none, none] (Sg GB) = .ok (.lst (K K1 ++ K K2)) (Sg GB) := by
      rw [ap_eBin, var_lst rfl, bind_ok, var_lst rfl, bind_ok, add_dd (by rw [hK1, hK2]; simp)]
    have x1 := app_ok (f := f_law_lone_answers) (args1 (var_lst (env := [some (.scr (I ns)), some (.int (n : Nat)), some (.lst L1), some (.lst (K K1)), some (.lst L2), some (.lst (K K2)), some (.lst (I vs)), some (.lst (K [XB 0, XB 1, XB 2, XB 3])), o8, none, none]) (i := 3) (S := Sg GB) rfl)) (lone_answers_spec (VK1.rms hn1 h12))
    have x2 := app_ok (f := f_law_meets) (args3 (ixK (e := [some (.scr (I ns)), some (.int (n : Nat)), some (.lst L1), some (.lst (K K1)), some (.lst L2), some (.lst (K K2)), some (.lst (I vs)), some (.lst (K [XB 0, XB 1, XB 2, XB 3])), o8, none, none]) 0 (i := 0) rfl (by decide) rfl) (ixK 1 (i := 1) rfl (by decide) rfl) (ixK 2 (i := 2) rfl (by decide) rfl)) (law_meets_spec (kv 0 (by decide)) (kv 1 (by decide)) (kv 2 (by decide)) hn1 h12)
    have x3 := app_ok (args1 add2) manyK
    rw [ap_sRet, ap_eAnd, x1, bind_ok, tru_b]
    dsimp only
    rw [ap_eAnd, x2, bind_ok, tru_b]
    dsimp only
    rw [x3]
    rfl
  have key : outR (b_law (env0 11 [.scr (I ns)]) []) = .ok (.bl true) (Sg GB) := by
    rw [e0]
    unfold b_law
    unfold nmF nmB at s13
    rw [out_nxs s1, out_nxs s2, out_nxs s3, out_nxs s4, out_nxs s5, out_nxs s6, out_nxs s7, out_nxs s8, out_nxs s9, out_nxs s10, out_nxs s11, out_nxs s12, out_nxs s13, out_nxs s14, out_nxs s15, s16]
    rfl
  have np : ([.scr (I ns)] : List D).length = 1 := rfl
  show ∃ S, f_law [.scr (I ns)] [] = .ok (.bl true) S
  unfold f_law
  simp only [defM, if_pos np, Bool.false_eq_true, if_false, key, cutR]
  split
  · exact ⟨_, rfl⟩
  · exact ⟨_, rfl⟩
end K02
/-! ## P03d -/
set_option Elab.async false
set_option linter.all false
set_option maxRecDepth 100000
set_option maxHeartbeats 1000000
open PySem PySem.W PyProof.Rows in
theorem PySem.Challenge.cw_signsandrests_k02_rooms_meet_and_join_holds : PySem.Challenge.rw_signsandrests_k02_rooms_meet_and_join.Holds := by
  exact K02.holds_of fun ns _ => K02.law_true ns
