import PyProof.Rows.All
import Wide.All
import OpenK.AllK
import Wide.FinOn
import HandS.ForMost
import HandS.ForExc
import HandS.Flow
import HandS.Defaults
import HandS.MakeKw
import KE.Datum
import KE.DatumIndex
import HandS.StrMore
import HandS.IsInst
import HandS.Style
import HandS.Conv
import HandS.CallSlots
import HandS.SetKeys
import HandS.More
import HandS.SortInts
import HandS.Text
import HandS.Deep
import HandS.Replace
import HandS.Words
import PyProof.Rows.Chain
import KE.GoesMore
import KE.GoesZip
import KE.GoesEnum
import KE.SortKeyHeap
import HandS.Lambda
import HandS.Keys
import HandS.DictComp
import PySem.Challenge.RW_cardshop_k51_worked
import HandS.HeadHook4
import HandS.HeadWalk
import HandS.NestedK
import HandS.Head0
import HandS.Head1
import HandS.Head2
import HandS.HeadEnd
set_option Elab.async false
set_option linter.all false
set_option maxRecDepth 100000
set_option maxHeartbeats 4000000
/-! The typed layer: what a body computes, told as plain data. -/
namespace CS
open PySem PySem.Spec PyProof.Rows L2

/-! ### data -/
inductive Dt where
  | non | bl (b : Bool) | int (i : Int) | str (x : Str)
  | lst (xs : List Dt) | tup (xs : List Dt) | dct (kvs : List (Key × Dt))
  | scr (ns : List Int)
  | obj (c : Nat) (fs : List (Str × Dt))

structure Exn where
  cls : Str
  fs : List (Str × Dt)

inductive Res (α : Type) where
  | ok (a : α) | exc (x : Exn) | err

def Res.bind {α β : Type} (m : Res α) (f : α → Res β) : Res β := match m with
  | .ok a => f a
  | .exc x => .exc x
  | .err => .err
def Res.map {α β : Type} (f : α → β) (m : Res α) : Res β := match m with
  | .ok a => .ok (f a)
  | .exc x => .exc x
  | .err => .err
instance : Monad Res where
  pure := Res.ok
  bind := Res.bind
def Po {α : Type} (m : Res α) (p : α → Prop) (q : Exn → Prop) : Prop := match m with
  | .ok a => p a
  | .exc x => q x
  | .err => False
theorem Po.bind {α β : Type} {m : Res α} {f : α → Res β} {p : β → Prop} {q : Exn → Prop} (h : Po (m.bind f) p q) : Po m (fun a => Po (f a) p q) q := by
  cases m <;> exact h
theorem Po.map {α β : Type} {m : Res α} {f : α → β} {p : β → Prop} {q : Exn → Prop} (h : Po (m.map f) p q) : Po m (fun a => p (f a)) q := by
  cases m <;> exact h
theorem Po.mapI {α β : Type} {m : Res α} {f : α → β} {p : β → Prop} {q : Exn → Prop} (h : Po m (fun a => p (f a)) q) : Po (m.map f) p q := by
  cases m <;> exact h
theorem Po.imp {α : Type} {m : Res α} {p p' : α → Prop} {q q' : Exn → Prop} (h : Po m p q) (hp : ∀ a, p a → p' a) (hq : ∀ x, q x → q' x) : Po m p' q' := by
  cases m with
  | ok a => exact hp a h
  | exc x => exact hq x h
  | err => exact h

/-! ### the surroundings of the whole law -/
def isTab : HO → Prop
  | .tbl _ => True
  | .ext _ => True
  | _ => False
structure Gv where
  K : PySem.W.Frag
  cl : Nat → Addr
  cv : Str → Value
  tabs : Hp → Prop
  tabs_ok : ∀ H H' : Hp, (∀ b o, H b = some o → isTab o → H' b = some o) → tabs H → tabs H'

/-- a list that nobody changes: locked, or a constant -/
def Fz (K : PySem.W.Frag) (H : Hp) (a : Addr) (vs : List V) : Prop := (∃ o, H a = some (.frz o (.lst vs))) ∨
  ∃ (o : Obj) (its : Array Value) (n : Nat), K.lookup a = some o ∧ o.cls = .type "list" ∧ o.dict = none ∧ o.data = .seq its n ∧ its.size ≤ sizeLine ∧ Vals vs its.toList
theorem Fz.seq {K : PySem.W.Frag} {H : Hp} {a : Addr} {vs : List V} (h : Fz K H a vs) : SqL K H a vs := by
  rcases h with h | h
  · exact .inl (.inr h)
  · exact .inr h
mutual
inductive Rp (G : Gv) (S : Addr → Prop) (H : Hp) : V → Dt → Prop
  | non : Rp G S H .non .non
  | bl (b : Bool) : Rp G S H (.bl b) (.bl b)
  | int (i : Int) : Rp G S H (.int i) (.int i)
  | str (x : Str) : Rp G S H (.str x) (.str x)
  | lst {a : Addr} {vs : List V} {ds : List Dt} : S a → H a = some (.lst vs) → Rps G S H vs ds → Rp G S H (.ref a) (.lst ds)
  | tup {a : Addr} {vs : List V} {ds : List Dt} : SqT G.K H a vs → Rps G S H vs ds → Rp G S H (.ref a) (.tup ds)
  | dct {a : Addr} {kvs : List (Key × V)} {ds : List (Key × Dt)} : S a → Rd H a (.dK kvs) → RpK G S H kvs ds → Rp G S H (.ref a) (.dct ds)
  | scr {a : Addr} {ns : List Int} : Fz G.K H a (ns.map V.int) → Rp G S H (.ref a) (.scr ns)
  | obj {a dx : Addr} {c : Nat} {fs : List (Str × V)} {ds : List (Str × Dt)} : S a → H a = some (.ins (G.cl c) dx fs) → RpF G S H fs ds → Rp G S H (.ref a) (.obj c ds)
inductive Rps (G : Gv) (S : Addr → Prop) (H : Hp) : List V → List Dt → Prop
  | nil : Rps G S H [] []
  | cons {v : V} {d : Dt} {vs : List V} {ds : List Dt} : Rp G S H v d → Rps G S H vs ds → Rps G S H (v :: vs) (d :: ds)
inductive RpK (G : Gv) (S : Addr → Prop) (H : Hp) : List (Key × V) → List (Key × Dt) → Prop
  | nil : RpK G S H [] []
  | cons {k : Key} {v : V} {d : Dt} {vs : List (Key × V)} {ds : List (Key × Dt)} : Rp G S H v d → RpK G S H vs ds → RpK G S H ((k, v) :: vs) ((k, d) :: ds)
inductive RpF (G : Gv) (S : Addr → Prop) (H : Hp) : List (Str × V) → List (Str × Dt) → Prop
  | nil : RpF G S H [] []
  | cons {k : Str} {v : V} {d : Dt} {vs : List (Str × V)} {ds : List (Str × Dt)} : Rp G S H v d → RpF G S H vs ds → RpF G S H ((k, v) :: vs) ((k, d) :: ds)
end

/-- from one heap to another one -/
structure Tr (G : Gv) (S S' : Addr → Prop) (H H' : Hp) : Prop where
  s : ∀ a, S a → H a ≠ none → S' a
  t : ∀ a vs, SqT G.K H a vs → SqT G.K H' a vs
  r : ∀ a vs, Fz G.K H a vs → Fz G.K H' a vs
  l : ∀ a vs, S a → H a = some (.lst vs) → H' a = some (.lst vs)
  d : ∀ a kvs, S a → Rd H a (.dK kvs) → Rd H' a (.dK kvs)
  o : ∀ a C dx fs, S a → H a = some (.ins C dx fs) → H' a = some (.ins C dx fs)
theorem rd_some {H : Hp} {a : Addr} {u : HO} (h : Rd H a u) : H a ≠ none := by
  rcases h with h | ⟨o, h⟩ <;> rw [h] <;> exact fun e => nomatch e
section
variable {G : Gv} {S S' : Addr → Prop} {H H' : Hp}
mutual
theorem Rp.tr (t : Tr G S S' H H') : ∀ {v : V} {d : Dt}, Rp G S H v d → Rp G S' H' v d
  | _, _, .non => .non
  | _, _, .bl b => .bl b
  | _, _, .int i => .int i
  | _, _, .str x => .str x
  | _, _, .lst s h r => .lst (t.s _ s (by rw [h]; exact fun e => nomatch e)) (t.l _ _ s h) (Rps.tr t r)
  | _, _, .tup h r => .tup (t.t _ _ h) (Rps.tr t r)
  | _, _, .dct s h r => .dct (t.s _ s (rd_some h)) (t.d _ _ s h) (RpK.tr t r)
  | _, _, .scr h => .scr (t.r _ _ h)
  | _, _, .obj s h r => .obj (t.s _ s (by rw [h]; exact fun e => nomatch e)) (t.o _ _ _ _ s h) (RpF.tr t r)
theorem Rps.tr (t : Tr G S S' H H') : ∀ {vs : List V} {ds : List Dt}, Rps G S H vs ds → Rps G S' H' vs ds
  | _, _, .nil => .nil
  | _, _, .cons h r => .cons (Rp.tr t h) (Rps.tr t r)
theorem RpK.tr (t : Tr G S S' H H') : ∀ {vs : List (Key × V)} {ds : List (Key × Dt)}, RpK G S H vs ds → RpK G S' H' vs ds
  | _, _, .nil => .nil
  | _, _, .cons h r => .cons (Rp.tr t h) (RpK.tr t r)
theorem RpF.tr (t : Tr G S S' H H') : ∀ {vs : List (Str × V)} {ds : List (Str × Dt)}, RpF G S H vs ds → RpF G S' H' vs ds
  | _, _, .nil => .nil
  | _, _, .cons h r => .cons (Rp.tr t h) (RpF.tr t r)
end
theorem sqt_of {K : PySem.W.Frag} (h : ∀ b xs, H b = some (.tup xs) → H' b = some (.tup xs)) (hf : ∀ b o u, H b = some (.frz o u) → H' b = some (.frz o u)) {a : Addr} {vs : List V} (q : SqT K H a vs) : SqT K H' a vs := by
  rcases q with (q | ⟨o, q⟩) | q
  · exact .inl (.inl (h _ _ q))
  · exact .inl (.inr ⟨o, hf _ _ _ q⟩)
  · exact .inr q
theorem fz_of {K : PySem.W.Frag} (hf : ∀ b o u, H b = some (.frz o u) → H' b = some (.frz o u)) {a : Addr} {vs : List V} (q : Fz K H a vs) : Fz K H' a vs := by
  rcases q with ⟨o, q⟩ | q
  · exact .inl ⟨o, hf _ _ _ q⟩
  · exact .inr q
end

/-! ### the heap goes on: what was known stays (but tables of code) -/
structure Ex (G : Gv) (H H' : Hp) : Prop where
  k : ∀ b o, H b = some o → (∀ ps, o ≠ .tbl ps) → H' b = some o
  t : G.tabs H → G.tabs H'
  f : ∀ b, H' b = none → H b = none
  z : ∀ b o u, H' b = some (.frz o u) → H b = some (.frz o u)
section
variable {G : Gv} {S S' : Addr → Prop} {H H' H1 H2 : Hp}
theorem Ex.refl (H : Hp) : Ex G H H := ⟨fun _ _ h _ => h, id, fun _ h => h, fun _ _ _ h => h⟩
theorem Ex.trans (a : Ex G H H1) (b : Ex G H1 H2) : Ex G H H2 := ⟨fun c o h n => b.k c o (a.k c o h n) n, fun h => b.t (a.t h), fun c h => a.f c (b.f c h), fun c o u h => a.z c o u (b.z c o u h)⟩
def notFz (o : HO) : Prop := match o with
  | .frz _ _ => False
  | _ => True
theorem Ex.of_same (h : ∀ b o, H b = some o → H' b = some o) (hz : ∀ b o u, H' b = some (.frz o u) → H b = some (.frz o u)) : Ex G H H' := ⟨fun b o q _ => h b o q, fun q => G.tabs_ok H H' (fun b o e _ => h b o e) q, (fun b e => by
  cases q : H b with
  | none => rfl
  | some o => rw [h b o q] at e; cases e), hz⟩
theorem Ex.new {p : Addr} {o : HO} (h : H p = none) (ho : notFz o := by exact trivial) : Ex G H (upd H p o) := .of_same (fun b u e => by rw [upd_ne (ne_of_none e h)]; exact e) fun b ob u e => by
  by_cases hb : b = p
  · rw [hb, upd_same] at e
    have := Option.some.inj e
    rw [this] at ho; exact ho.elim
  · rw [upd_ne hb] at e; exact e
theorem Ex.tr (e : Ex G H H') (hs : ∀ a, S a → H a ≠ none → S' a) : Tr G S S' H H' where
  s := hs
  t := fun _ _ q => sqt_of (fun b xs h => e.k b _ h (fun _ z => nomatch z)) (fun b o u h => e.k b _ h (fun _ z => nomatch z)) q
  r := fun _ _ q => fz_of (fun b o u h => e.k b _ h (fun _ z => nomatch z)) q
  l := fun a vs _ h => e.k a _ h (fun _ z => nomatch z)
  d := fun a kvs _ h => by
    rcases h with h | ⟨o, h⟩
    · exact .inl (e.k a _ h (fun _ z => nomatch z))
    · exact .inr ⟨o, e.k a _ h (fun _ z => nomatch z)⟩
  o := fun a C dx fs _ h => e.k a _ h (fun _ z => nomatch z)
theorem Rp.ex (e : Ex G H H') {v : V} {d : Dt} (h : Rp G S H v d) : Rp G S H' v d := h.tr (e.tr fun _ s _ => s)
theorem Rps.ex (e : Ex G H H') {v : List V} {d : List Dt} (h : Rps G S H v d) : Rps G S H' v d := h.tr (e.tr fun _ s _ => s)
theorem Rp.sub (hs : ∀ a, S a → H a ≠ none → S' a) {v : V} {d : Dt} (h : Rp G S H v d) : Rp G S' H v d := h.tr ((Ex.refl H).tr hs)
theorem Rps.sub (hs : ∀ a, S a → H a ≠ none → S' a) {v : List V} {d : List Dt} (h : Rps G S H v d) : Rps G S' H v d := h.tr ((Ex.refl H).tr hs)
abbrev Top : Addr → Prop := fun _ => True
theorem Rp.top {v : V} {d : Dt} (h : Rp G S H v d) : Rp G Top H v d := h.sub fun _ _ _ => trivial
theorem Rps.top {v : List V} {d : List Dt} (h : Rps G S H v d) : Rps G Top H v d := h.sub fun _ _ _ => trivial
/-- what may be changed -/
def isMu : HO → Prop
  | .lst _ => True
  | .dK _ => True
  | .ins _ _ _ => True
  | _ => False
/-- a change at l, l out of S -/
theorem tr_upd {l : Addr} {u o : HO} (hl : H l = some u) (hu : isMu u) (hs : ∀ a, S a → a ≠ l) : Tr G S S H (upd H l o) where
  s := fun _ s _ => s
  t := fun _ _ q => sqt_of (fun b xs h => by rw [upd_ne (ne_of h hl (by intro z; subst z; exact hu))]; exact h) (fun b o' u' h => by rw [upd_ne (ne_of h hl (by intro z; subst z; exact hu))]; exact h) q
  r := fun _ _ q => fz_of (fun b o' u' h => by rw [upd_ne (ne_of h hl (by intro z; subst z; exact hu))]; exact h) q
  l := fun a vs s h => by rw [upd_ne (hs a s)]; exact h
  d := fun a kvs s h => by
    rcases h with h | ⟨o', h⟩
    · exact .inl (by rw [upd_ne (hs a s)]; exact h)
    · exact .inr ⟨o', by rw [upd_ne (hs a s)]; exact h⟩
  o := fun a C dx fs s h => by rw [upd_ne (hs a s)]; exact h
theorem tabs_upd {l : Addr} {u o : HO} (hl : H l = some u) (hu : isMu u) (h : G.tabs H) : G.tabs (upd H l o) := G.tabs_ok H _ (fun b o' e t => by
  rw [upd_ne (ne_of e hl (by intro z; subst z; cases o' <;> first | exact t | exact hu))]; exact e) h
end

/-! ### the slots of a frame -/
/-- what an own container holds -/
inductive Oc where
  | l (ds : List Dt) | d (kds : List (Key × Dt)) | o (c : Nat) (fs : List (Str × Dt))
inductive Sl where
  | any | val (d : Dt) | own (c : Oc)
def Ow (Γ : List Sl) (i : Nat) : Prop := ∃ c, Γ[i]? = some (.own c)
/-- where a body stands: the heap at its entry; values that it does not touch; where the lists at its entry may stand -/
structure Bs where
  h : Hp
  xt : List (V × Dt)
  rs : Addr → Prop
  me : Option Addr
def Av (Γ : List Sl) (H0 : Bs) (loc : Nat → Addr) (a : Addr) : Prop := (∀ i, Ow Γ i → a ≠ loc i) ∧ (H0.rs a ∨ H0.h a = none)
def OcOk (G : Gv) (S : Addr → Prop) (H : Hp) (a : Addr) : Oc → Prop
  | .l ds => ∃ vs, H a = some (.lst vs) ∧ Rps G S H vs ds
  | .d kds => ∃ kvs, H a = some (.dK kvs) ∧ RpK G S H kvs kds
  | .o c fs => ∃ dx vs, H a = some (.ins (G.cl c) dx vs) ∧ RpF G S H vs fs
def SlOk (G : Gv) (Γ : List Sl) (H0 : Bs) (loc : Nat → Addr) (H : Hp) (v : Option (Option V)) (i : Nat) : Sl → Prop
  | .any => True
  | .val d => ∃ u, v = some (some u) ∧ Rp G (Av Γ H0 loc) H u d
  | .own c => v = some (some (.ref (loc i))) ∧ OcOk G (Av Γ H0 loc) H (loc i) c
structure At (G : Gv) (Γ : List Sl) (H0 : Bs) (loc : Nat → Addr) (σ : L2.St) (H : Hp) : Prop where
  ex : Ex G H0.h H
  xts : ∀ p ∈ H0.xt, Rp G (Av Γ H0 loc) H p.1 p.2
  tabs : G.tabs H
  len : σ.length = Γ.length
  inj : ∀ i j, Ow Γ i → Ow Γ j → loc i = loc j → i = j
  new : ∀ i, Ow Γ i → H0.h (loc i) = none
  me : ∀ a, H0.me = some a → Ow Γ 0 → loc 0 = a
  slot : ∀ i s, Γ[i]? = some s → SlOk G Γ H0 loc H (σ[i]?) i s
section
variable {G : Gv} {Γ : List Sl} {H0 : Bs} {H H' : Hp} {loc : Nat → Addr} {σ : L2.St}
theorem OcOk.ex1 {S : Addr → Prop} {a : Addr} {c : Oc} (h : OcOk G S H a c) : ∃ u, H a = some u ∧ isMu u := by
  cases c with
  | l ds => obtain ⟨vs, h, _⟩ := h; exact ⟨_, h, trivial⟩
  | d ds => obtain ⟨vs, h, _⟩ := h; exact ⟨_, h, trivial⟩
  | o k fs => obtain ⟨dx, vs, h, _⟩ := h; exact ⟨_, h, trivial⟩
theorem OcOk.tr {S S' : Addr → Prop} {a : Addr} {c : Oc} (t : Tr G S S' H H') (k : ∀ u, H a = some u → isMu u → H' a = some u) (h : OcOk G S H a c) : OcOk G S' H' a c := by
  cases c with
  | l ds => obtain ⟨vs, h, r⟩ := h; exact ⟨vs, k _ h trivial, r.tr t⟩
  | d ds => obtain ⟨vs, h, r⟩ := h; exact ⟨vs, k _ h trivial, r.tr t⟩
  | o c fs => obtain ⟨dx, vs, h, r⟩ := h; exact ⟨dx, vs, k _ h trivial, r.tr t⟩
theorem isMu.tbl {u : HO} (h : isMu u) : ∀ ps, u ≠ .tbl ps := fun ps z => by subst z; exact h
theorem At.there (A : At G Γ H0 loc σ H) {i : Nat} (h : Ow Γ i) : ∃ u, H (loc i) = some u ∧ isMu u := by
  obtain ⟨c, e⟩ := h
  exact OcOk.ex1 (A.slot i _ e).2
/-- the heap goes on -/
theorem At.on (A : At G Γ H0 loc σ H) (e : Ex G H H') : At G Γ H0 loc σ H' where
  ex := A.ex.trans e
  xts := fun p hp => (A.xts p hp).ex e
  tabs := e.t A.tabs
  len := A.len
  inj := A.inj
  new := A.new
  me := A.me
  slot := fun i s h => by
    have q := A.slot i s h
    cases s with
    | any => trivial
    | val d => obtain ⟨u, h1, h2⟩ := q; exact ⟨u, h1, h2.ex e⟩
    | own c => exact ⟨q.1, OcOk.tr (e.tr fun _ s _ => s) (fun u h hm => e.k _ u h hm.tbl) q.2⟩
theorem At.get (A : At G Γ H0 loc σ H) {i : Nat} {d : Dt} (h : Γ[i]? = some (.val d)) : ∃ u, σ[i]? = some (some u) ∧ Rp G (Av Γ H0 loc) H u d := A.slot i _ h
/-- an address that is new is not an own one -/
theorem At.ne (A : At G Γ H0 loc σ H) {p : Addr} (h : H p = none) {i : Nat} (ho : Ow Γ i) : p ≠ loc i := by
  obtain ⟨u, e, _⟩ := A.there ho
  exact (ne_of_none e h).symm
theorem At.av (A : At G Γ H0 loc σ H) {p : Addr} (h : H p = none) : Av Γ H0 loc p := ⟨fun _ ho => A.ne h ho, .inr (A.ex.f p h)⟩
/-- slot i gets a value -/
theorem ow_set {i j : Nat} {s : Sl} (hs : ∀ c, s ≠ .own c) (h : Ow (Γ.set i s) j) : Ow Γ j ∧ j ≠ i := by
  obtain ⟨c, h⟩ := h
  rw [List.getElem?_set] at h
  split at h
  · rename_i e
    split at h
    · exact absurd (Option.some.inj h) (hs c)
    · cases h
  · rename_i e
    exact ⟨⟨c, h⟩, fun z => e z.symm⟩
theorem av_set {i : Nat} {s : Sl} (hs : ∀ c, s ≠ .own c) {a : Addr} (h : Av Γ H0 loc a) : Av (Γ.set i s) H0 loc a := ⟨fun j ho => h.1 j (ow_set hs ho).1, h.2⟩
theorem At.put (A : At G Γ H0 loc σ H) {i : Nat} {v : V} {s : Sl} (hs : s = .any ∨ ∃ d, s = .val d ∧ Rp G (Av Γ H0 loc) H v d) : At G (Γ.set i s) H0 loc (σ.set i (some v)) H := by
  have hn : ∀ c, s ≠ .own c := fun c z => by
    rcases hs with e | ⟨d, e, _⟩ <;> rw [e] at z <;> cases z
  refine ⟨A.ex, fun p hp => (A.xts p hp).sub fun a q _ => av_set hn q, A.tabs, by rw [List.length_set, List.length_set]; exact A.len, fun j k a b => A.inj j k (ow_set hn a).1 (ow_set hn b).1, fun j a => A.new j (ow_set hn a).1, fun a e o => A.me a e (ow_set hn o).1, fun j t h => ?_⟩
  rw [List.getElem?_set] at h
  split at h
  · rename_i e
    subst e
    split at h
    · rename_i hl
      have e := Option.some.inj h
      subst e
      rcases hs with e | ⟨d, e, r⟩
      · rw [e]; trivial
      · subst e
        exact ⟨v, List.getElem?_set_self (by rw [A.len]; exact hl), r.sub fun a q _ => av_set hn q⟩
    · cases h
  · rename_i e
    have q := A.slot j t h
    have es : (σ.set i (some v))[j]? = σ[j]? := List.getElem?_set_ne e
    cases t with
    | any => trivial
    | val d => obtain ⟨u, h1, h2⟩ := q; exact ⟨u, by rw [es]; exact h1, h2.sub fun a q _ => av_set hn q⟩
    | own c => exact ⟨by rw [es]; exact q.1, OcOk.tr ((Ex.refl H).tr fun a q _ => av_set hn q) (fun u h _ => h) q.2⟩
/-- slot i gets a new container, its own one -/
theorem ow_own {i j : Nat} {c : Oc} (h : Ow (Γ.set i (.own c)) j) : Ow Γ j ∨ j = i := by
  obtain ⟨c', h⟩ := h
  rw [List.getElem?_set] at h
  split at h
  · rename_i e; exact .inr e.symm
  · exact .inl ⟨c', h⟩
def mv (loc : Nat → Addr) (i : Nat) (p : Addr) : Nat → Addr := fun j => if j = i then p else loc j
theorem mv_at {loc : Nat → Addr} {i : Nat} {p : Addr} : mv loc i p i = p := if_pos rfl
theorem mv_ne {loc : Nat → Addr} {i j : Nat} {p : Addr} (h : ¬ j = i) : mv loc i p j = loc j := if_neg h
theorem At.putO (A : At G Γ H0 loc σ H) {i : Nat} {p : Addr} {c : Oc} (e : Ex G H H') (hp : H p = none) (hi0 : 0 < i) (hi : i < Γ.length)
    (hc' : ∀ S : Addr → Prop, (∀ a, Av Γ H0 loc a → a ≠ p → S a) → OcOk G S H' p c) : At G (Γ.set i (.own c)) H0 (mv loc i p) (σ.set i (some (.ref p))) H' := by
  have hav : ∀ a, Av Γ H0 loc a → a ≠ p → Av (Γ.set i (.own c)) H0 (mv loc i p) a := fun a h hne => ⟨fun j ho => by
    by_cases hj : j = i
    · rw [hj, mv_at]; exact hne
    · rw [mv_ne hj]
      rcases ow_own ho with ho | ho
      · exact h.1 j ho
      · exact absurd ho hj, h.2⟩
  have t1 : Tr G (Av Γ H0 loc) (Av (Γ.set i (.own c)) H0 (mv loc i p)) H H' := e.tr fun a q hn => hav a q fun z => by rw [z] at hn; exact hn hp
  refine ⟨A.ex.trans e, fun p hp => (A.xts p hp).tr t1, e.t A.tabs, by rw [List.length_set, List.length_set]; exact A.len, fun j k a b q => ?_, fun j a => ?_, fun a e o => by
    rw [mv_ne (Nat.ne_of_lt hi0)]
    rcases ow_own o with o | o
    · exact A.me a e o
    · exact absurd o (Nat.ne_of_lt hi0), fun j t h => ?_⟩
  · by_cases hj : j = i
    · by_cases hk : k = i
      · rw [hj, hk]
      · rw [hj, mv_at, mv_ne hk] at q
        rcases ow_own b with b | b
        · exact absurd q (A.ne hp b)
        · exact absurd b hk
    · by_cases hk : k = i
      · rw [hk, mv_at, mv_ne hj] at q
        rcases ow_own a with a | a
        · exact absurd q.symm (A.ne hp a)
        · exact absurd a hj
      · rw [mv_ne hj, mv_ne hk] at q
        rcases ow_own a with a | a
        · rcases ow_own b with b | b
          · exact A.inj j k a b q
          · exact absurd b hk
        · exact absurd a hj
  · by_cases hj : j = i
    · rw [hj, mv_at]; exact A.ex.f _ hp
    · rw [mv_ne hj]
      rcases ow_own a with a | a
      · exact A.new j a
      · exact absurd a hj
  · rw [List.getElem?_set] at h
    split at h
    · rename_i ej
      subst ej
      have es := Option.some.inj h
      subst es
      refine ⟨?_, ?_⟩
      · rw [List.getElem?_set_self (by rw [A.len]; exact hi), mv_at]
      · rw [mv_at]; exact hc' _ hav
    · rename_i ej
      have es : (σ.set i (some (V.ref p)))[j]? = σ[j]? := List.getElem?_set_ne ej
      have q := A.slot j t h
      cases t with
      | any => trivial
      | val d => obtain ⟨u, h1, h2⟩ := q; exact ⟨u, by rw [es]; exact h1, h2.tr t1⟩
      | own c' =>
        have hji : ¬ j = i := fun z => ej z.symm
        refine ⟨?_, ?_⟩
        · rw [es, mv_ne hji]; exact q.1
        · rw [mv_ne hji]; exact OcOk.tr t1 (fun u h hm => e.k _ u h hm.tbl) q.2
/-- an own container is changed -/
theorem At.mut (A : At G Γ H0 loc σ H) {i : Nat} {c c' : Oc} (h : Γ[i]? = some (.own c)) {u o : HO} (hu : H (loc i) = some u) (hm : isMu u) (hnz : notFz o) (ho : OcOk G (Av Γ H0 loc) (upd H (loc i) o) (loc i) c') : At G (Γ.set i (.own c')) H0 loc σ (upd H (loc i) o) := by
  have hown : Ow Γ i := ⟨c, h⟩
  have hav : ∀ a, Av Γ H0 loc a → Av (Γ.set i (.own c')) H0 loc a := fun a q => ⟨fun j ho => by
    rcases ow_own ho with ho | ho
    · exact q.1 j ho
    · rw [ho]; exact q.1 i hown, q.2⟩
  have nw : H0.h (loc i) = none := A.new i hown
  have t0 : Tr G (Av Γ H0 loc) (Av Γ H0 loc) H (upd H (loc i) o) := tr_upd hu hm fun a q => q.1 i hown
  have t1 : Tr G (Av Γ H0 loc) (Av (Γ.set i (.own c')) H0 loc) (upd H (loc i) o) (upd H (loc i) o) := (Ex.refl _).tr fun a q _ => hav a q
  have back : ∀ {j}, Ow (Γ.set i (.own c')) j → Ow Γ j := fun {j} b => by
    rcases ow_own b with b | b
    · exact b
    · rw [b]; exact hown
  refine ⟨⟨fun b v e n => ?_, fun _ => tabs_upd hu hm A.tabs, fun b e => ?_, fun b ob u e => ?_⟩, fun p hp => ((A.xts p hp).tr t0).tr t1, tabs_upd hu hm A.tabs, by rw [List.length_set]; exact A.len, fun j k a b q => A.inj j k (back a) (back b) q, fun j a => A.new j (back a), fun a e o => A.me a e (back o), fun j t q => ?_⟩
  · rw [upd_ne (ne_of_none e nw)]
    exact A.ex.k b v e n
  · by_cases hb : b = loc i
    · rw [hb]; exact nw
    · rw [upd_ne hb] at e; exact A.ex.f b e
  · by_cases hb : b = loc i
    · rw [hb, upd_same] at e
      have := Option.some.inj e
      rw [this] at hnz; exact hnz.elim
    · rw [upd_ne hb] at e; exact A.ex.z b ob u e
  · have hi : i < Γ.length := (List.getElem?_eq_some_iff.mp h).1
    rw [List.getElem?_set] at q
    split at q
    · rename_i ej
      subst ej
      have es := Option.some.inj q
      subst es
      exact ⟨(A.slot i _ h).1, OcOk.tr t1 (fun u h _ => h) ho⟩
    · rename_i ej
      have q' := A.slot j t q
      cases t with
      | any => trivial
      | val d => obtain ⟨v, h1, h2⟩ := q'; exact ⟨v, h1, (h2.tr t0).tr t1⟩
      | own c2 =>
        refine ⟨q'.1, OcOk.tr t1 (fun u h _ => h) (OcOk.tr t0 (fun v h' _ => ?_) q'.2)⟩
        rw [upd_ne fun z => ej (A.inj j i ⟨c2, q⟩ hown z).symm]
        exact h'
/-- what a container holds, as data -/
def Oc.dt : Oc → Dt
  | .l ds => .lst ds
  | .d kds => .dct kds
  | .o c fs => .obj c fs
theorem OcOk.rp {S : Addr → Prop} {a : Addr} {c : Oc} (s : S a) (h : OcOk G S H a c) : Rp G S H (.ref a) c.dt := by
  cases c with
  | l ds => obtain ⟨vs, h, r⟩ := h; exact .lst s h r
  | d ds => obtain ⟨vs, h, r⟩ := h; exact .dct s (.inl h) r
  | o c fs => obtain ⟨dx, vs, h, r⟩ := h; exact .obj s h r
/-- an own container is no more one's own alone -/
theorem At.freeze (A : At G Γ H0 loc σ H) {i : Nat} {c : Oc} (h : Γ[i]? = some (.own c)) : At G (Γ.set i (.val c.dt)) H0 loc σ H := by
  have hn : ∀ c', Sl.val c.dt ≠ .own c' := fun c' z => nomatch z
  have hown : Ow Γ i := ⟨c, h⟩
  have t1 : Tr G (Av Γ H0 loc) (Av (Γ.set i (.val c.dt)) H0 loc) H H := (Ex.refl H).tr fun a q _ => av_set hn q
  refine ⟨A.ex, fun p hp => (A.xts p hp).tr t1, A.tabs, by rw [List.length_set]; exact A.len, fun j k a b => A.inj j k (ow_set hn a).1 (ow_set hn b).1, fun j a => A.new j (ow_set hn a).1, fun a e o => A.me a e (ow_set hn o).1, fun j t q => ?_⟩
  rw [List.getElem?_set] at q
  split at q
  · rename_i ej
    subst ej
    split at q
    · have es := Option.some.inj q
      subst es
      obtain ⟨q1, q2⟩ := A.slot i _ h
      refine ⟨_, q1, OcOk.rp ⟨fun j ho z => ?_, .inr (A.new i hown)⟩ (OcOk.tr t1 (fun u h _ => h) q2)⟩
      exact (ow_set hn ho).2 (A.inj j i (ow_set hn ho).1 hown z.symm)
    · cases q
  · have q' := A.slot j t q
    cases t with
    | any => trivial
    | val d => obtain ⟨v, h1, h2⟩ := q'; exact ⟨v, h1, h2.tr t1⟩
    | own c2 => exact ⟨q'.1, OcOk.tr t1 (fun u h _ => h) q'.2⟩
/-- slots forgotten -/
def Sub (Γ Γ' : List Sl) : Prop := Γ'.length = Γ.length ∧ ∀ (i : Nat) s, Γ'[i]? = some s → s = .any ∨ Γ[i]? = some s
theorem Sub.refl (Γ : List Sl) : Sub Γ Γ := ⟨rfl, fun _ _ h => .inr h⟩
theorem Sub.nil : Sub [] [] := .refl []
theorem Sub.same {s : Sl} {Γ Γ' : List Sl} (h : Sub Γ Γ') : Sub (s :: Γ) (s :: Γ') := ⟨by simp [h.1], fun i t q => by
  cases i with
  | zero => exact .inr (by simpa using q)
  | succ i => simpa using h.2 i t (by simpa using q)⟩
theorem Sub.any {s : Sl} {Γ Γ' : List Sl} (h : Sub Γ Γ') : Sub (s :: Γ) (.any :: Γ') := ⟨by simp [h.1], fun i t q => by
  cases i with
  | zero => exact .inl (by simpa using q.symm)
  | succ i => simpa using h.2 i t (by simpa using q)⟩
theorem Sub.ow {Γ Γ' : List Sl} (h : Sub Γ Γ') {i : Nat} (o : Ow Γ' i) : Ow Γ i := by
  obtain ⟨c, e⟩ := o
  rcases h.2 i _ e with z | z
  · cases z
  · exact ⟨c, z⟩
theorem At.sub {Γ' : List Sl} (A : At G Γ H0 loc σ H) (h : Sub Γ Γ') : At G Γ' H0 loc σ H := by
  have t1 : Tr G (Av Γ H0 loc) (Av Γ' H0 loc) H H := (Ex.refl H).tr fun a q _ => ⟨fun j o => q.1 j (h.ow o), q.2⟩
  refine ⟨A.ex, fun p hp => (A.xts p hp).tr t1, A.tabs, by rw [h.1]; exact A.len, fun j k a b => A.inj j k (h.ow a) (h.ow b), fun j a => A.new j (h.ow a), fun a e o => A.me a e (h.ow o), fun j t q => ?_⟩
  rcases h.2 j t q with z | z
  · rw [z]; trivial
  · have q' := A.slot j t z
    cases t with
    | any => trivial
    | val d => obtain ⟨v, h1, h2⟩ := q'; exact ⟨v, h1, h2.tr t1⟩
    | own c2 => exact ⟨q'.1, OcOk.tr t1 (fun u h _ => h) q'.2⟩
end

/-! ### the judgements -/
/-- where the lists of a value may stand: new ones; ones that are new to the def; none of this frame's own; anywhere -/
inductive Rg where
  | nw | fr | av | top
def rg (R : Rg) (Γ : List Sl) (H0 : Bs) (loc : Nat → Addr) (H : Hp) : Addr → Prop := match R with
  | .nw => fun a => H a = none
  | .fr => fun a => H0.h a = none
  | .av => Av Γ H0 loc
  | .top => fun _ => True
theorem rg_back {G : Gv} {R : Rg} {Γ : List Sl} {H0 : Bs} {H H1 : Hp} {loc : Nat → Addr} (e : Ex G H H1) (a : Addr) (h : rg R Γ H0 loc H1 a) : rg R Γ H0 loc H a := by
  cases R with
  | nw => exact e.f a h
  | fr => exact h
  | av => exact h
  | top => exact h
theorem rg_new {G : Gv} {R : Rg} {Γ : List Sl} {H0 : Bs} {H H1 : Hp} {loc : Nat → Addr} {σ : L2.St} {p : Addr} (A : At G Γ H0 loc σ H1) (e : Ex G H H1) (h : H1 p = none) : rg R Γ H0 loc H p := by
  cases R with
  | nw => exact e.f p h
  | fr => exact A.ex.f p h
  | av => exact A.av h
  | top => trivial
theorem Rp.back {G : Gv} {R : Rg} {Γ : List Sl} {H0 : Bs} {H H1 H2 : Hp} {loc : Nat → Addr} (e : Ex G H H1) {v : V} {d : Dt} (r : Rp G (rg R Γ H0 loc H1) H2 v d) : Rp G (rg R Γ H0 loc H) H2 v d := r.sub fun a s _ => rg_back e a s
theorem Rps.back {G : Gv} {R : Rg} {Γ : List Sl} {H0 : Bs} {H H1 H2 : Hp} {loc : Nat → Addr} (e : Ex G H H1) {v : List V} {d : List Dt} (r : Rps G (rg R Γ H0 loc H1) H2 v d) : Rps G (rg R Γ H0 loc H) H2 v d := r.sub fun a s _ => rg_back e a s
def WE (X : Cx) (e : Expr) (σ : L2.St) (H : Hp) (Q : VK) : Prop := ∀ (pins : List (Addr × Obj)) (s : Shared), Inv X pins σ H s → wpAny (model X.prog X.w) X.A (eval e X.env) (EP X pins σ Q) X.xe s
def WT (X : Cx) (e : Expr) (σ : L2.St) (H : Hp) (Q : Bool → Hp → Prop) : Prop := ∀ (pins : List (Addr × Obj)) (s : Shared), Inv X pins σ H s → wpAny (model X.prog X.w) X.A (isTrue e X.env (eval e X.env)) (TP X pins σ Q) X.xe s
def WA (X : Cx) (es : List Expr) (σ : L2.St) (H : Hp) (Q : List V → Hp → Prop) : Prop := ∀ (pos : Pos) (pins : List (Addr × Obj)) (s : Shared), Inv X pins σ H s → wpAny (model X.prog X.w) X.A (spliced (backTo pos (starEach es X.env))) (AP X pins σ Q) X.xe s
def WSs (X : Cx) (sts : List Stmt) (D : Ends) (σ : L2.St) (H : Hp) : Prop := ∀ (pins : List (Addr × Obj)) (s : Shared), Inv X pins σ H s → wpAny (model X.prog X.w) X.A (execs sts X.env) (SP X pins D) X.xe s
def WS (X : Cx) (st : Stmt) (D : Ends) (σ : L2.St) (H : Hp) : Prop := ∀ (pins : List (Addr × Obj)) (s : Shared), Inv X pins σ H s → wpAny (model X.prog X.w) X.A (exec st X.env) (SP X pins D) X.xe s
theorem peW (X : Cx) (e : Expr) : PE X e (WE X e) := ⟨fun pins s _ _ _ I h => h pins s I⟩
theorem ptW (X : Cx) (e : Expr) : PT X e (WT X e) := ⟨fun pins s _ _ _ I h => h pins s I⟩
theorem paW (X : Cx) (es : List Expr) : PA X es (WA X es) := ⟨fun pos pins s _ _ _ I h => h pos pins s I⟩
theorem pssW (X : Cx) (sts : List Stmt) : PSs X sts (WSs X sts) := ⟨fun pins s _ _ _ I h => h pins s I⟩
theorem psW (X : Cx) (st : Stmt) : PS X st (WS X st) := ⟨fun pins s _ _ _ I h => h pins s I⟩

def XAt (G : Gv) (H : Hp) (dd : Option Addr) (x : Exn) : Prop := x.fs = [] ∨ ∃ d fs, dd = some d ∧ H d = some (.xd fs) ∧ RpF G Top H fs x.fs
/-- what is to be shown of an exception's way out -/
abbrev Xw (G : Gv) (W : WX) (σ : L2.St) (H : Hp) (x : Exn) : Prop := ∀ dd H', Ex G H H' → XAt G H' dd x → W (G.cv x.cls) dd σ H'
def EV (G : Gv) (X : Cx) (W : WX) (Γ : List Sl) (R : Rg) (e : Expr) (m : Res Dt) : Prop :=
  ∀ (H0 : Bs) (loc : Nat → Addr) (σ : L2.St) (H : Hp) (Q : VK), At G Γ H0 loc σ H →
    Po m (fun d => ∀ v H', Ex G H H' → Rp G (rg R Γ H0 loc H) H' v d → Q v H') (Xw G W σ H) → WE X e σ H Q
def ET (G : Gv) (X : Cx) (W : WX) (Γ : List Sl) (e : Expr) (m : Res Bool) : Prop :=
  ∀ (H0 : Bs) (loc : Nat → Addr) (σ : L2.St) (H : Hp) (Q : Bool → Hp → Prop), At G Γ H0 loc σ H →
    Po m (fun b => ∀ H', Ex G H H' → Q b H') (Xw G W σ H) → WT X e σ H Q
def EA (G : Gv) (X : Cx) (W : WX) (Γ : List Sl) (R : Rg) (es : List Expr) (m : Res (List Dt)) : Prop :=
  ∀ (H0 : Bs) (loc : Nat → Addr) (σ : L2.St) (H : Hp) (Q : List V → Hp → Prop), At G Γ H0 loc σ H →
    Po m (fun ds => ∀ vs H', Ex G H H' → Rps G (rg R Γ H0 loc H) H' vs ds → Q vs H') (Xw G W σ H) → WA X es σ H Q
/-- what is known of the running code -/
structure Dx (G : Gv) (X : Cx) (W : WX) (N : List Str) (sc : Scope) (k : Nat) : Prop where
  n : X.N = N
  sc : X.env.scope = sc
  K : X.K = G.K
  calm : X.calm = true
  room : Room k X.A
  tk : Takes X W
  nd : N.Nodup
/-- .. of a def's body -/
structure Dd (G : Gv) (X : Cx) (W : WX) (N : List Str) (sc : Scope) (k : Nat) : Prop extends Dx G X W N sc k where
  fn : ∀ x, X.fn x = true
  po : PassesOwn (model X.prog X.w) X.A X.env X.xe
section
variable {G : Gv} {X : Cx} {W : WX} {Γ : List Sl} {N : List Str} {sc : Scope} {k : Nat} {R Ra Rb : Rg} {pos : Pos} {a b e : Expr} {m n : Res Dt}
theorem Xw.on {σ : L2.St} {H H' : Hp} {x : Exn} (e : Ex G H H') (h : Xw G W σ H x) : Xw G W σ H' x := fun dd H2 e2 q => h dd H2 (e.trans e2) q
/-- the same in the heap as it has become -/
theorem Po.on {α : Type} {m : Res α} {σ : L2.St} {H H' : Hp} {p p' : α → Prop} (e : Ex G H H') (h : Po m p (Xw G W σ H)) (hp : ∀ a, p a → p' a) : Po m p' (Xw G W σ H') := h.imp hp fun _ q => q.on e
def visB (sc : Scope) (x : Str) : Bool := match sc.names.lookup x with
  | some .local => true
  | some .cell => true
  | some .free => true
  | _ => false
theorem vis_of {sc : Scope} {x : Str} (h : visB sc x = true) : Vis sc x := by
  unfold visB at h
  split at h <;> first | exact .inl ‹_› | exact .inr (.inl ‹_›) | exact .inr (.inr ‹_›) | cases h
def locB (sc : Scope) (x : Str) : Bool := match sc.names.lookup x with
  | some .local => true
  | some .cell => true
  | _ => false
theorem loc_of {sc : Scope} {x : Str} (h : locB sc x = true) : Loc sc x := by
  unfold locB at h
  split at h <;> first | exact .inl ‹_› | exact .inr ‹_› | cases h
def glB (sc : Scope) (x : Str) : Bool := match sc.names.lookup x with
  | some .globalImplicit => true
  | _ => false
theorem gl_of (C : Dx G X W N sc k) {x : Str} (h : glB sc x = true) : Gl X x := by
  unfold glB at h
  split at h <;> first | (show X.env.scope.names.lookup x = _; rw [C.sc]; assumption) | cases h

/-- a name -/
theorem ev_var (C : Dx G X W N sc k) {i : Nat} {x : Str} {d : Dt} (hN : N[i]? = some x) (hΓ : Γ[i]? = some (.val d)) (hv : visB sc x = true) (hd : (x == ("__debug__" : Str)) = false) (hcd : (x == ("__classdict__" : Str)) = false) : EV G X W Γ .av (.Name x pos) (.ok d) := by
  intro H0 loc σ H Q A h pins s I
  obtain ⟨u, e, r⟩ := A.get hΓ
  exact (pe_var (by rw [C.n]; exact hN) (by rw [C.sc]; exact vis_of hv) hd hcd).run pins s σ H Q I ⟨u, e, h u H (.refl H) r⟩
/-- a name whose container is this frame's own, looked at -/
theorem ev_own (C : Dx G X W N sc k) {i : Nat} {x : Str} {c : Oc} (hN : N[i]? = some x) (hΓ : Γ[i]? = some (.own c)) (hv : visB sc x = true) (hd : (x == ("__debug__" : Str)) = false) (hcd : (x == ("__classdict__" : Str)) = false) : EV G X W Γ .top (.Name x pos) (.ok c.dt) := by
  intro H0 loc σ H Q A h pins s I
  obtain ⟨e, r⟩ := A.slot i _ hΓ
  exact (pe_var (by rw [C.n]; exact hN) (by rw [C.sc]; exact vis_of hv) hd hcd).run pins s σ H Q I ⟨_, e, h _ H (.refl H) (OcOk.rp trivial (OcOk.tr ((Ex.refl H).tr fun _ _ _ => trivial) (fun u h _ => h) r))⟩
theorem ev_int {i : Int} {j : Nat} : EV G X W Γ R (.Constant (.int i) j pos) (.ok (.int i)) := fun _ _ _ H _ _ h pins s I => pe_int.run pins s _ H _ I (h _ H (.refl H) (.int i))
theorem ev_str {i : Str} {j : Nat} : EV G X W Γ R (.Constant (.str i) j pos) (.ok (.str i)) := fun _ _ _ H _ _ h pins s I => pe_str.run pins s _ H _ I (h _ H (.refl H) (.str i))
theorem ev_bl {i : Bool} {j : Nat} : EV G X W Γ R (.Constant (.bool i) j pos) (.ok (.bl i)) := fun _ _ _ H _ _ h pins s I => pe_bl.run pins s _ H _ I (h _ H (.refl H) (.bl i))
theorem ev_non {j : Nat} : EV G X W Γ R (.Constant .none j pos) (.ok .non) := fun _ _ _ H _ _ h pins s I => pe_non.run pins s _ H _ I (h _ H (.refl H) .non)

end
end CS
namespace CS
open PySem PySem.Spec PyProof.Rows L2

/-! ### data by Lean's types -/
class Enc (α : Type) where
  enc : α → Dt
open Enc (enc)
structure Scr where
  ns : List Int
structure T3 (α β γ : Type) where
  (a : α) (b : β) (c : γ)
  deriving DecidableEq
structure T4 (α β γ δ : Type) where
  (a : α) (b : β) (c : γ) (d : δ)
  deriving DecidableEq
structure Dct (κ α : Type) where
  kvs : List (κ × α)
class EKey (κ : Type) where
  key : κ → Key
  inj : ∀ a b, key a = key b → a = b
instance : EKey Int := ⟨Sum.inl, fun _ _ h => Sum.inl.inj h⟩
instance : EKey Str := ⟨Sum.inr, fun _ _ h => Sum.inr.inj h⟩
instance : Enc Int := ⟨.int⟩
instance : Enc Bool := ⟨.bl⟩
instance : Enc Str := ⟨.str⟩
instance : Enc Unit := ⟨fun _ => .non⟩
instance : Enc Dt := ⟨id⟩
instance : Enc Scr := ⟨fun s => .scr s.ns⟩
section
variable {α β γ δ κ : Type} [Enc α] [Enc β] [Enc γ] [Enc δ] [EKey κ]
instance : Enc (List α) := ⟨fun xs => .lst (xs.map enc)⟩
instance : Enc (α × β) := ⟨fun p => .tup [enc p.1, enc p.2]⟩
instance : Enc (T3 α β γ) := ⟨fun p => .tup [enc p.a, enc p.b, enc p.c]⟩
instance : Enc (T4 α β γ δ) := ⟨fun p => .tup [enc p.a, enc p.b, enc p.c, enc p.d]⟩
instance : Enc (Dct κ α) := ⟨fun d => .dct (d.kvs.map fun p => (EKey.key p.1, enc p.2))⟩
end
abbrev TV {α : Type} [Enc α] (G : Gv) (X : Cx) (W : WX) (Γ : List Sl) (R : Rg) (e : Expr) (m : Res α) : Prop := EV G X W Γ R e (m.map enc)

section
variable {G : Gv} {S : Addr → Prop} {H : Hp} {v : V}
theorem rp_int {i : Int} (h : Rp G S H v (.int i)) : v = .int i := by cases h; rfl
theorem rp_bl {i : Bool} (h : Rp G S H v (.bl i)) : v = .bl i := by cases h; rfl
theorem rp_str {i : Str} (h : Rp G S H v (.str i)) : v = .str i := by cases h; rfl
theorem rp_non (h : Rp G S H v .non) : v = .non := by cases h; rfl
theorem rp_lst {ds : List Dt} (h : Rp G S H v (.lst ds)) : ∃ a vs, v = .ref a ∧ S a ∧ H a = some (.lst vs) ∧ Rps G S H vs ds := by cases h; exact ⟨_, _, rfl, by assumption, by assumption, by assumption⟩
theorem rp_tup {ds : List Dt} (h : Rp G S H v (.tup ds)) : ∃ a vs, v = .ref a ∧ SqT G.K H a vs ∧ Rps G S H vs ds := by cases h; exact ⟨_, _, rfl, by assumption, by assumption⟩
theorem rp_dct {ds : List (Key × Dt)} (h : Rp G S H v (.dct ds)) : ∃ a kvs, v = .ref a ∧ S a ∧ Rd H a (.dK kvs) ∧ RpK G S H kvs ds := by cases h; exact ⟨_, _, rfl, by assumption, by assumption, by assumption⟩
theorem rp_scr {ns : List Int} (h : Rp G S H v (.scr ns)) : ∃ a, v = .ref a ∧ Fz G.K H a (ns.map V.int) := by cases h; exact ⟨_, rfl, by assumption⟩
theorem Rps.len : ∀ {vs : List V} {ds : List Dt}, Rps G S H vs ds → vs.length = ds.length
  | _, _, .nil => rfl
  | _, _, .cons _ r => by simp [Rps.len r]
theorem Rps.get : ∀ {vs : List V} {ds : List Dt}, Rps G S H vs ds → ∀ {i : Nat} {d : Dt}, ds[i]? = some d → ∃ v, vs[i]? = some v ∧ Rp G S H v d
  | _, _, .nil, i, d, h => by simp at h
  | _, _, .cons r _, 0, d, h => by simp at h; subst h; exact ⟨_, rfl, r⟩
  | _, _, .cons _ r, i + 1, d, h => by
    obtain ⟨v, h1, h2⟩ := Rps.get r (i := i) (d := d) (by simpa using h)
    exact ⟨v, by simpa using h1, h2⟩
theorem Rps.app : ∀ {vs ws : List V} {ds es : List Dt}, Rps G S H vs ds → Rps G S H ws es → Rps G S H (vs ++ ws) (ds ++ es)
  | _, _, _, _, .nil, q => q
  | _, _, _, _, .cons r t, q => .cons r (Rps.app t q)
theorem Rps.take : ∀ {vs : List V} {ds : List Dt} (n : Nat), Rps G S H vs ds → Rps G S H (vs.take n) (ds.take n)
  | _, _, 0, _ => .nil
  | _, _, _ + 1, .nil => .nil
  | _, _, n + 1, .cons r t => .cons r (Rps.take n t)
theorem Rps.drop : ∀ {vs : List V} {ds : List Dt} (n : Nat), Rps G S H vs ds → Rps G S H (vs.drop n) (ds.drop n)
  | _, _, 0, r => r
  | _, _, _ + 1, .nil => .nil
  | _, _, n + 1, .cons _ t => Rps.drop n t
theorem Rps.set {v : V} {d : Dt} (q : Rp G S H v d) : ∀ {vs : List V} {ds : List Dt} (n : Nat), Rps G S H vs ds → Rps G S H (vs.set n v) (ds.set n d)
  | _, _, _, .nil => .nil
  | _, _, 0, .cons r t => .cons q t
  | _, _, n + 1, .cons r t => .cons r (Rps.set q n t)
theorem Rps.rev {vs : List V} {ds : List Dt} (h : Rps G S H vs ds) : Rps G S H vs.reverse ds.reverse := by
  induction vs generalizing ds with
  | nil => cases h; exact .nil
  | cons v vs ih => cases h with
    | cons r t => rw [List.reverse_cons, List.reverse_cons]; exact (ih t).app (.cons r .nil)
theorem rps_ints : ∀ (ns : List Int), Rps G S H (ns.map V.int) (ns.map Dt.int)
  | [] => .nil
  | n :: ns => .cons (.int n) (rps_ints ns)
theorem rps_strs : ∀ (ns : List Str), Rps G S H (ns.map V.str) (ns.map Dt.str)
  | [] => .nil
  | n :: ns => .cons (.str n) (rps_strs ns)
theorem rps_ints_eq : ∀ {ns : List Int} {vs : List V}, Rps G S H vs (ns.map Dt.int) → vs = ns.map V.int
  | [], _, .nil => rfl
  | n :: ns, _, .cons r t => by rw [rp_int r, rps_ints_eq t]; rfl
theorem rps_strs_eq : ∀ {ns : List Str} {vs : List V}, Rps G S H vs (ns.map Dt.str) → vs = ns.map V.str
  | [], _, .nil => rfl
  | n :: ns, _, .cons r t => by rw [rp_str r, rps_strs_eq t]; rfl
end

/-! ### sizes -/
def SZ : Nat := 16777216
theorem sz_eq : sizeLine = SZ := sizeLine_eq
def okIf {α : Type} (c : Prop) [Decidable c] (a : α) : Res α := if c then .ok a else .err
theorem Po.okIf {α : Type} {c : Prop} [Decidable c] {a : α} {p : α → Prop} {q : Exn → Prop} (h : Po (okIf c a) p q) : c ∧ p a := by
  unfold CS.okIf at h
  split at h
  · exact ⟨by assumption, h⟩
  · exact h.elim

section
variable {G : Gv} {X : Cx} {W : WX} {Γ : List Sl} {N : List Str} {sc : Scope} {k : Nat} {R Ra Rb Rc : Rg} {pos : Pos} {a b c e : Expr} {α β γ δ : Type} [Enc α] [Enc β] [Enc γ] [Enc δ]

/-! ### how a reading goes on -/
theorem we1 {m : Res α} (ha : TV G X W Γ Ra a m) {ρ : Type} {f : α → Res ρ} {H0 : Bs} {loc : Nat → Addr} {σ : L2.St} {H : Hp} {Q : V → Hp → Prop} (A : At G Γ H0 loc σ H)
    {p : ρ → Hp → Prop} (hp : ∀ r H1 H2, Ex G H1 H2 → p r H1 → p r H2) (h : Po (m.bind f) (fun r => p r H) (Xw G W σ H))
    (hr : ∀ x v H', Ex G H H' → At G Γ H0 loc σ H' → Rp G (rg Ra Γ H0 loc H) H' v (enc x) → Po (f x) (fun r => p r H') (Xw G W σ H') → Q v H') : WE X a σ H Q :=
  ha H0 loc σ H _ A (Po.mapI (h.bind.imp (fun x hx v H1 e1 r1 => hr x v H1 e1 (A.on e1) r1 (Po.on e1 hx fun r q => hp r _ _ e1 q)) fun _ q => q))
theorem we2t {m : Res α} {n : Res β} (ha : TV G X W Γ Ra a m) (hb : TV G X W Γ Rb b n) {ρ : Type} {f : α → β → Res ρ} {H0 : Bs} {loc : Nat → Addr} {σ : L2.St} {H : Hp} {Q : V → V → Hp → Prop} (A : At G Γ H0 loc σ H)
    {p : ρ → Hp → Prop} (hp : ∀ r H1 H2, Ex G H1 H2 → p r H1 → p r H2) (h : Po (m.bind fun x => n.bind fun y => f x y) (fun r => p r H) (Xw G W σ H))
    (hr : ∀ x y v u H', Ex G H H' → At G Γ H0 loc σ H' → Rp G (rg Ra Γ H0 loc H) H' v (enc x) → Rp G (rg Rb Γ H0 loc H) H' u (enc y) → Po (f x y) (fun r => p r H') (Xw G W σ H') → Q v u H') : WE X a σ H fun v H1 => WE X b σ H1 fun u H2 => Q v u H2 :=
  we1 ha A hp h fun x v H1 e1 A1 r1 h1 => we1 hb A1 hp h1 fun y u H2 e2 A2 r2 h2 => hr x y v u H2 (e1.trans e2) A2 (r1.ex e2) (r2.back e1) h2
/-- the wish of an expression: its value -/
def Wv (G : Gv) (S : Addr → Prop) (Q : VK) (d : Dt) (H : Hp) : Prop := ∀ v H', Ex G H H' → Rp G S H' v d → Q v H'
theorem wv_on {S : Addr → Prop} {Q : VK} (d : Dt) (H1 H2 : Hp) (e : Ex G H1 H2) (h : Wv G S Q d H1) : Wv G S Q d H2 := fun v H3 e3 r => h v H3 (e.trans e3) r
theorem Wv.go {S : Addr → Prop} {Q : VK} {d : Dt} {H : Hp} {v : V} (h : Wv G S Q d H) (r : Rp G S H v d) : Q v H := h v H (.refl H) r
/-- an expression of one part, by a rule of the library's on the part's value -/
theorem tv1 {m : Res α} (ha : TV G X W Γ Ra a m) {f : α → Res β} {t : TE → TE} (rule : PE X e (t (WE X a)))
    (hr : ∀ (H0 : Bs) (loc : Nat → Addr) (σ : L2.St) (H : Hp) (Q : VK), At G Γ H0 loc σ H → (∀ (K : V → Hp → Prop), (∀ x v H', Ex G H H' → At G Γ H0 loc σ H' → Rp G (rg Ra Γ H0 loc H) H' v (enc x) → Po (f x) (fun y => Wv G (rg R Γ H0 loc H) Q (enc y) H') (Xw G W σ H') → K v H') → WE X a σ H K) → t (WE X a) σ H Q) :
    TV G X W Γ R e (m.bind f) := fun H0 loc σ H Q A h pins s I =>
  rule.run pins s σ H Q I (hr H0 loc σ H Q A fun K hK => we1 ha A (p := fun y H1 => Wv G (rg R Γ H0 loc H) Q (enc y) H1) (fun r H1 H2 e q => wv_on _ _ _ e q) (Po.map h) hK)
/-- .. of two parts -/
theorem tv2 {m : Res α} {n : Res β} (ha : TV G X W Γ Ra a m) (hb : TV G X W Γ Rb b n) {f : α → β → Res γ} {r : R2} (rule : PE X e (tOp r (WE X a) (WE X b)))
    (hr : ∀ (H0 : Bs) (loc : Nat → Addr) (Hs : Hp) (σ : L2.St) (H : Hp) (Q : VK) x y v u, Ex G Hs H → At G Γ H0 loc σ H → Rp G (rg Ra Γ H0 loc Hs) H v (enc x) → Rp G (rg Rb Γ H0 loc Hs) H u (enc y) → Po (f x y) (fun z => Wv G (rg R Γ H0 loc Hs) Q (enc z) H) (Xw G W σ H) → r v u H Q) :
    TV G X W Γ R e (m.bind fun x => n.bind fun y => f x y) := fun H0 loc σ H Q A h pins s I =>
  rule.run pins s σ H Q I (we2t ha hb A (p := fun y H1 => Wv G (rg R Γ H0 loc H) Q (enc y) H1) (fun r H1 H2 e q => wv_on _ _ _ e q) (Po.map h) fun x y v u H' e A' r1 r2 h' => hr H0 loc H σ H' Q x y v u e A' r1 r2 h')

/-! ### whole numbers -/
theorem tv_add {m n : Res Int} (ha : TV G X W Γ Ra a m) (hb : TV G X W Γ Rb b n) : TV G X W Γ R (.BinOp a .Add b pos) (m.bind fun x => n.bind fun y => .ok (x + y)) :=
  tv2 ha hb (pe_op op_add (peW X a) (peW X b)) fun H0 loc Hs σ H Q x y v u ee A r1 r2 h => ⟨x, y, rp_int r1, rp_int r2, h.go (.int _)⟩
theorem tv_sub {m n : Res Int} (ha : TV G X W Γ Ra a m) (hb : TV G X W Γ Rb b n) : TV G X W Γ R (.BinOp a .Sub b pos) (m.bind fun x => n.bind fun y => .ok (x - y)) :=
  tv2 ha hb (pe_op op_sub (peW X a) (peW X b)) fun H0 loc Hs σ H Q x y v u ee A r1 r2 h => ⟨x, y, rp_int r1, rp_int r2, h.go (.int _)⟩
def mulR (x y : Int) : Res Int := okIf ((-18446744073709551616 < x ∧ x < 18446744073709551616) ∨ (-18446744073709551616 < y ∧ y < 18446744073709551616)) (x * y)
def divR (x y : Int) : Res Int := okIf (0 < y ∧ y < 1073741824) (x / y)
def modR (x y : Int) : Res Int := okIf (0 < y) (x % y)
theorem tv_mul {m n : Res Int} (ha : TV G X W Γ Ra a m) (hb : TV G X W Γ Rb b n) : TV G X W Γ R (.BinOp a .Mult b pos) (m.bind fun x => n.bind fun y => mulR x y) :=
  tv2 ha hb (pe_op op_mul (peW X a) (peW X b)) fun H0 loc Hs σ H Q x y v u ee A r1 r2 h => by
    obtain ⟨c, h⟩ := h.okIf
    exact ⟨x, y, rp_int r1, rp_int r2, c, h.go (.int _)⟩
theorem tv_div {m n : Res Int} (ha : TV G X W Γ Ra a m) (hb : TV G X W Γ Rb b n) : TV G X W Γ R (.BinOp a .FloorDiv b pos) (m.bind fun x => n.bind fun y => divR x y) :=
  tv2 ha hb (pe_op op_fdiv (peW X a) (peW X b)) fun H0 loc Hs σ H Q x y v u ee A r1 r2 h => by
    obtain ⟨c, h⟩ := h.okIf
    exact ⟨x, y, rp_int r1, rp_int r2, c, h.go (.int _)⟩
theorem tv_mod {m n : Res Int} (ha : TV G X W Γ Ra a m) (hb : TV G X W Γ Rb b n) : TV G X W Γ R (.BinOp a .Mod b pos) (m.bind fun x => n.bind fun y => modR x y) :=
  tv2 ha hb (pe_op op_mod (peW X a) (peW X b)) fun H0 loc Hs σ H Q x y v u ee A r1 r2 h => by
    obtain ⟨c, h⟩ := h.okIf
    exact ⟨x, y, rp_int r1, rp_int r2, c, h.go (.int _)⟩
def powR (x y : Int) : Res Int := okIf (0 ≤ y ∧ y ≤ 1000000 ∧ x.natAbs < 2 ^ 64) (x ^ y.toNat)
theorem tv_pow {m n : Res Int} (ha : TV G X W Γ Ra a m) (hb : TV G X W Γ Rb b n) : TV G X W Γ R (.BinOp a .Pow b pos) (m.bind fun x => n.bind fun y => powR x y) :=
  tv2 ha hb (pe_op op_pow (peW X a) (peW X b)) fun H0 loc Hs σ H Q x y v u ee A r1 r2 h => by
    obtain ⟨c, h⟩ := h.okIf
    exact ⟨x, y, rp_int r1, rp_int r2, c, h.go (.int _)⟩
theorem tv_neg {m : Res Int} (ha : TV G X W Γ Ra a m) : TV G X W Γ R (.UnaryOp .USub a pos) (m.bind fun x => .ok (-x)) :=
  tv1 ha (t := fun t => tUn _ t) (pe_un un_neg (peW X a)) fun H0 loc σ H Q A K => K _ fun x v H' e A' r h => ⟨x, rp_int r, h.go (.int _)⟩
/-! ### comparisons -/
theorem tv_lt {m n : Res Int} (ha : TV G X W Γ Ra a m) (hb : TV G X W Γ Rb b n) : TV G X W Γ R (.Compare a [.Lt] [b] pos) (m.bind fun x => n.bind fun y => .ok (decide (x < y))) :=
  tv2 ha hb (pe_cmpR op_lt (peW X a) (peW X b) (nomark _)) fun H0 loc Hs σ H Q x y v u ee A r1 r2 h => ⟨x, y, rp_int r1, rp_int r2, h.go (.bl _)⟩
theorem tv_le {m n : Res Int} (ha : TV G X W Γ Ra a m) (hb : TV G X W Γ Rb b n) : TV G X W Γ R (.Compare a [.LtE] [b] pos) (m.bind fun x => n.bind fun y => .ok (decide (x ≤ y))) :=
  tv2 ha hb (pe_cmpR op_le (peW X a) (peW X b) (nomark _)) fun H0 loc Hs σ H Q x y v u ee A r1 r2 h => ⟨x, y, rp_int r1, rp_int r2, h.go (.bl _)⟩
theorem tv_gt {m n : Res Int} (ha : TV G X W Γ Ra a m) (hb : TV G X W Γ Rb b n) : TV G X W Γ R (.Compare a [.Gt] [b] pos) (m.bind fun x => n.bind fun y => .ok (decide (y < x))) :=
  tv2 ha hb (pe_cmpR op_gt (peW X a) (peW X b) (nomark _)) fun H0 loc Hs σ H Q x y v u ee A r1 r2 h => ⟨x, y, rp_int r1, rp_int r2, h.go (.bl _)⟩
theorem tv_ge {m n : Res Int} (ha : TV G X W Γ Ra a m) (hb : TV G X W Γ Rb b n) : TV G X W Γ R (.Compare a [.GtE] [b] pos) (m.bind fun x => n.bind fun y => .ok (decide (y ≤ x))) :=
  tv2 ha hb (pe_cmpR op_ge (peW X a) (peW X b) (nomark _)) fun H0 loc Hs σ H Q x y v u ee A r1 r2 h => ⟨x, y, rp_int r1, rp_int r2, h.go (.bl _)⟩
end
end CS
namespace CS
open Enc (enc)
open PySem PySem.Spec PyProof.Rows L2
open PySem.W (Datum Holds HoldAll)

/-! ### data that == tells apart -/
mutual
def Dt.py : Dt → PyData
  | .non => .none
  | .bl b => .bool b
  | .int i => .int i
  | .str x => .str x
  | .lst xs => .list (Dt.pys xs)
  | .tup xs => .tuple (Dt.pys xs)
  | .dct _ => .dict []
  | .scr ns => .list (ns.map .int)
  | .obj _ _ => .dict []
def Dt.pys : List Dt → List PyData
  | [] => []
  | x :: xs => Dt.py x :: Dt.pys xs
end
theorem pys_map : ∀ xs : List Dt, Dt.pys xs = xs.map Dt.py
  | [] => by simp [Dt.pys]
  | x :: xs => by rw [Dt.pys, pys_map xs]; rfl
section
variable {K : PySem.W.Frag} {H : Hp}
theorem dpAll_ints : ∀ ns : List Int, DpAll K H (ns.map V.int) (ns.map PyData.int)
  | [] => .nil
  | n :: ns => .cons (.int n) (dpAll_ints ns)
end
section
variable {G : Gv} {S : Addr → Prop} {H : Hp}
mutual
theorem Rp.dp : ∀ {v : V} {d : Dt}, Rp G S H v d → d.py.plain = true → Dp G.K H v d.py
  | _, _, .non, _ => .non
  | _, _, .bl b, _ => .bl b
  | _, _, .int i, _ => .int i
  | _, _, .str x, _ => .str x
  | _, _, .lst (ds := ds) s h r, q => by
    have q' : PyData.plainAll (Dt.pys ds) = true := by simpa only [Dt.py, PyData.plain] using q
    rw [Dt.py]
    exact .lst (SqL.of h) (Rps.dp r q')
  | _, _, .tup (ds := ds) h r, q => by
    have q' : PyData.plainAll (Dt.pys ds) = true := by simpa only [Dt.py, PyData.plain] using q
    rw [Dt.py]
    exact .tup h (Rps.dp r q')
  | _, _, .dct _ _ _, q => by simp [Dt.py, PyData.plain] at q
  | _, _, .scr h, _ => by rw [Dt.py]; exact .lst h.seq (dpAll_ints _)
  | _, _, .obj _ _ _, q => by simp [Dt.py, PyData.plain] at q
theorem Rps.dp : ∀ {vs : List V} {ds : List Dt}, Rps G S H vs ds → PyData.plainAll (Dt.pys ds) = true → DpAll G.K H vs (Dt.pys ds)
  | _, _, .nil, _ => by rw [Dt.pys]; exact .nil
  | _, _, .cons (d := d) (ds := ds) h r, q => by
    rw [Dt.pys, PyData.plainAll, Bool.and_eq_true] at q
    rw [Dt.pys]
    exact .cons (Rp.dp h q.1) (Rps.dp r q.2)
end
end
/-- the type's two ways of being data agree -/
class Ec (α : Type) [DecidableEq α] [Datum α] [Enc α] : Prop where
  py : ∀ a : α, (enc a).py = Datum.toD a
instance : Ec Int := ⟨fun _ => rfl⟩
instance : Ec Bool := ⟨fun _ => rfl⟩
instance : Ec Str := ⟨fun _ => rfl⟩
instance : Ec Unit := ⟨fun _ => rfl⟩
section
variable {α β γ δ : Type} [DecidableEq α] [Datum α] [Enc α] [Ec α] [DecidableEq β] [Datum β] [Enc β] [Ec β] [DecidableEq γ] [Datum γ] [Enc γ] [Ec γ] [DecidableEq δ] [Datum δ] [Enc δ] [Ec δ]
theorem pys_enc : ∀ xs : List α, Dt.pys (xs.map enc) = xs.map Datum.toD
  | [] => rfl
  | x :: xs => by rw [List.map_cons, Dt.pys, Ec.py, pys_enc xs]; rfl
instance : Ec (List α) := ⟨fun xs => by show (Dt.lst (xs.map enc)).py = PyData.list (xs.map Datum.toD); rw [Dt.py, pys_enc]⟩
instance : Ec (α × β) := ⟨fun p => by show (Dt.tup [enc p.1, enc p.2]).py = PyData.tuple [Datum.toD p.1, Datum.toD p.2]; rw [Dt.py, Dt.pys, Dt.pys, Dt.pys, Ec.py, Ec.py]⟩
theorem max3 {a b c n : Nat} (h1 : a ≤ n) (h2 : b ≤ n) (h3 : c ≤ n) : max a (max b (max c 0)) ≤ n := by omega
instance : Datum (T3 α β γ) where
  toD p := .tuple [Datum.toD p.a, Datum.toD p.b, Datum.toD p.c]
  plain p := by simp only [PyData.plain, PyData.plainAll, Datum.plain, Bool.and_self]
  eqv p q := by
    simp only [PyData.eqv, PyData.eqvAll]
    rw [Datum.eqv, Datum.eqv, Datum.eqv, Bool.and_true, ← Bool.decide_and, ← Bool.decide_and]
    exact decide_eq_decide.mpr ⟨fun e => by cases p; cases q; simp at e ⊢; exact e, fun e => by rw [e]; exact ⟨rfl, rfl, rfl⟩⟩
  depth := max (Datum.depth α) (max (Datum.depth β) (Datum.depth γ)) + 1
  depth_le p := by
    simp only [PyData.depth, PyData.depthAll]
    have h1 := Datum.depth_le p.a
    have h2 := Datum.depth_le p.b
    have h3 := Datum.depth_le p.c
    omega
instance : Ec (T3 α β γ) := ⟨fun p => by show (Dt.tup [enc p.a, enc p.b, enc p.c]).py = PyData.tuple [Datum.toD p.a, Datum.toD p.b, Datum.toD p.c]; rw [Dt.py, Dt.pys, Dt.pys, Dt.pys, Dt.pys, Ec.py, Ec.py, Ec.py]⟩
instance : Datum (T4 α β γ δ) where
  toD p := .tuple [Datum.toD p.a, Datum.toD p.b, Datum.toD p.c, Datum.toD p.d]
  plain p := by simp only [PyData.plain, PyData.plainAll, Datum.plain, Bool.and_self]
  eqv p q := by
    simp only [PyData.eqv, PyData.eqvAll]
    rw [Datum.eqv, Datum.eqv, Datum.eqv, Datum.eqv, Bool.and_true, ← Bool.decide_and, ← Bool.decide_and, ← Bool.decide_and]
    exact decide_eq_decide.mpr ⟨fun e => by cases p; cases q; simp at e ⊢; exact e, fun e => by rw [e]; exact ⟨rfl, rfl, rfl, rfl⟩⟩
  depth := max (Datum.depth α) (max (Datum.depth β) (max (Datum.depth γ) (Datum.depth δ))) + 1
  depth_le p := by
    simp only [PyData.depth, PyData.depthAll]
    have h1 := Datum.depth_le p.a
    have h2 := Datum.depth_le p.b
    have h3 := Datum.depth_le p.c
    have h4 := Datum.depth_le p.d
    omega
instance : Ec (T4 α β γ δ) := ⟨fun p => by show (Dt.tup [enc p.a, enc p.b, enc p.c, enc p.d]).py = PyData.tuple [Datum.toD p.a, Datum.toD p.b, Datum.toD p.c, Datum.toD p.d]; rw [Dt.py, Dt.pys, Dt.pys, Dt.pys, Dt.pys, Dt.pys, Ec.py, Ec.py, Ec.py, Ec.py]⟩
end

/-! ### comparisons -/
/-- the rule of a comparison that gives f -/
def CmpR (G : Gv) (X : Cx) (op : CmpOp) {α β : Type} [Enc α] [Enc β] (f : α → β → Res Bool) : Prop := ∃ r : R2, OpR X (compareOp op) r ∧
  ∀ (x : α) (y : β) (v u : V) (H : Hp) (Q : VK) (q : Exn → Prop), Rp G Top H v (enc x) → Rp G Top H u (enc y) → Po (f x y) (fun z => Q (.bl z) H) q → (∃ z, f x y = .ok z) → r v u H Q
theorem Po.get {α : Type} {m : Res α} {p : α → Prop} {q : Exn → Prop} (h : Po m p q) (hq : ∀ x, m ≠ .exc x) : ∃ z, m = .ok z := by
  cases m with
  | ok a => exact ⟨a, rfl⟩
  | exc x => exact absurd rfl (hq x)
  | err => exact h.elim
section
variable {G : Gv} {X : Cx} {W : WX} {Γ : List Sl} {N : List Str} {sc : Scope} {k : Nat} {R Ra Rb Rc Re : Rg} {pos : Pos} {a b c d e : Expr} {α β γ δ : Type} [Enc α] [Enc β] [Enc γ] [Enc δ] {op op' op'' : CmpOp}
theorem cmp_lt : CmpR G X .Lt (fun x y : Int => .ok (decide (x < y))) := ⟨_, op_lt, fun x y v u H Q q r1 r2 h _ => ⟨x, y, rp_int r1, rp_int r2, h⟩⟩
theorem cmp_le : CmpR G X .LtE (fun x y : Int => .ok (decide (x ≤ y))) := ⟨_, op_le, fun x y v u H Q q r1 r2 h _ => ⟨x, y, rp_int r1, rp_int r2, h⟩⟩
theorem cmp_gt : CmpR G X .Gt (fun x y : Int => .ok (decide (y < x))) := ⟨_, op_gt, fun x y v u H Q q r1 r2 h _ => ⟨x, y, rp_int r1, rp_int r2, h⟩⟩
theorem cmp_ge : CmpR G X .GtE (fun x y : Int => .ok (decide (y ≤ x))) := ⟨_, op_ge, fun x y v u H Q q r1 r2 h _ => ⟨x, y, rp_int r1, rp_int r2, h⟩⟩
theorem cmp_ltS : CmpR G X .Lt (fun x y : Str => .ok (decide (x.cps.toList < y.cps.toList))) := ⟨_, op_lt_str, fun x y v u H Q q r1 r2 h _ => ⟨x, y, rp_str r1, rp_str r2, h⟩⟩
theorem cmp_gtS : CmpR G X .Gt (fun x y : Str => .ok (decide (y.cps.toList < x.cps.toList))) := ⟨_, op_gt_str, fun x y v u H Q q r1 r2 h _ => ⟨x, y, rp_str r1, rp_str r2, h⟩⟩
/-- one sign in a text -/
def inS (x y : Str) : Res Bool := match x.cps.toList with
  | [c] => .ok (decide (c ∈ y.cps.toList))
  | _ => .err
theorem inS_ok {x y : Str} {z : Bool} (h : inS x y = .ok z) : ∃ c, x = ⟨#[c]⟩ ∧ z = decide (c ∈ y.cps.toList) := by
  unfold inS at h
  split at h
  · rename_i c e
    refine ⟨c, ?_, (Res.ok.inj h).symm⟩
    apply Str.ext'
    exact Array.toList_inj.mp (by rw [e])
  · cases h
theorem cmp_inS : CmpR G X .In inS := ⟨_, op_in_sign, fun x y v u H Q q r1 r2 h ⟨z, hz⟩ => by
  obtain ⟨c, ec, ez⟩ := inS_ok hz
  rw [hz] at h
  refine ⟨c, y, by rw [rp_str r1, ec], rp_str r2, ?_⟩
  rw [← ez]; exact h⟩
def ninS (x y : Str) : Res Bool := (inS x y).map fun b => !b
theorem cmp_ninS : CmpR G X .NotIn ninS := ⟨_, op_notIn_sign, fun x y v u H Q q r1 r2 h ⟨z, hz⟩ => by
  unfold ninS at hz h
  cases hi : inS x y with
  | ok w =>
    obtain ⟨c, ec, ez⟩ := inS_ok hi
    rw [hi] at h
    refine ⟨c, y, by rw [rp_str r1, ec], rp_str r2, ?_⟩
    rw [← ez]; exact h
  | exc x => rw [hi] at hz; cases hz
  | err => rw [hi] at hz; cases hz⟩

section
variable [DecidableEq α] [Datum α] [Ec α]
theorem Rp.holds {S : Addr → Prop} {pins : List (Addr × Obj)} {σ : L2.St} {H : Hp} {s : Shared} {v : V} {u : Value} {x : α} (hK : X.K = G.K) (I : Inv X pins σ H s) (h : Rp G S H v (enc x)) (r : RelV v u) : Holds s.heap u x := by
  have hd : Dp G.K H v (enc x).py := h.dp (by rw [Ec.py]; exact Datum.plain x)
  rw [← hK] at hd
  obtain ⟨as, q⟩ := Dp.reads I _ v u hd r
  rw [Ec.py] at q
  exact ⟨as, q⟩
def rEqT (G : Gv) (α : Type) [DecidableEq α] [Enc α] (neg : Bool) : R2 := fun v u H Q => ∃ x y : α, Rp G Top H v (enc x) ∧ Rp G Top H u (enc y) ∧ Q (.bl (if neg then !decide (x = y) else decide (x = y))) H
theorem op_eqT (C : Dx G X W N sc k) (hd : Datum.depth α ≤ 64) : OpR X (compareOp .Eq) (rEqT G α false) := by
  intro pins s σ H x y v u Q I rx ry ⟨a, b, ha, hb, q⟩
  exact PySem.W.eq_datum (ha.holds C.K I rx) (hb.holds C.K I ry) (Nat.lt_of_le_of_lt (Nat.add_le_add_left hd _) C.room.units) ⟨.bl (decide (a = b)), H, I, rfl, q⟩
theorem op_neT (C : Dx G X W N sc k) (hd : Datum.depth α ≤ 64) : OpR X (compareOp .NotEq) (rEqT G α true) := by
  intro pins s σ H x y v u Q I rx ry ⟨a, b, ha, hb, q⟩
  refine PySem.W.ne_datum (ha.holds C.K I rx) (hb.holds C.K I ry) (Nat.lt_of_le_of_lt (Nat.add_le_add_left hd _) C.room.units) ⟨.bl (decide (a ≠ b)), H, I, rfl, ?_⟩
  rw [decide_not]; exact q
theorem cmp_eq (C : Dx G X W N sc k) (hd : Datum.depth α ≤ 64) : CmpR G X .Eq (fun x y : α => .ok (decide (x = y))) := ⟨_, op_eqT C hd, fun x y v u H Q q r1 r2 h _ => ⟨x, y, r1, r2, h⟩⟩
theorem cmp_ne (C : Dx G X W N sc k) (hd : Datum.depth α ≤ 64) : CmpR G X .NotEq (fun x y : α => .ok (!decide (x = y))) := ⟨_, op_neT C hd, fun x y v u H Q q r1 r2 h _ => ⟨x, y, r1, r2, h⟩⟩
end
/-- is None, of anything -/
def Dt.isN : Dt → Bool
  | .non => true
  | _ => false
theorem rp_isN {S : Addr → Prop} {H : Hp} {v : V} {d : Dt} (h : Rp G S H v d) : decide (v = V.non) = d.isN := by
  cases h <;> simp [Dt.isN]
theorem cmp_isN : CmpR G X .Is (fun (x : Dt) (_ : Unit) => .ok x.isN) := ⟨_, op_isN, fun x y v u H Q q r1 r2 h _ => ⟨rp_non r2, by rw [rp_isN r1]; exact h⟩⟩
theorem cmp_notN : CmpR G X .IsNot (fun (x : Dt) (_ : Unit) => .ok (!x.isN)) := ⟨_, op_notN, fun x y v u H Q q r1 r2 h _ => ⟨rp_non r2, by rw [rp_isN r1]; exact h⟩⟩

/-- f raises nothing -/
def Calm2 (f : α → β → Res Bool) : Prop := ∀ x y z, f x y ≠ .exc z
theorem tv_cmp {f : α → β → Res Bool} (hf : CmpR G X op f) (hn : Calm2 f) {m : Res α} {n : Res β} (ha : TV G X W Γ Ra a m) (hb : TV G X W Γ Rb b n) (hm : behindInMarks op b = false) :
    TV G X W Γ R (.Compare a [op] [b] pos) (m.bind fun x => n.bind fun y => f x y) := by
  obtain ⟨r, ho, hr⟩ := hf
  exact tv2 ha hb (pe_cmpR ho (peW X a) (peW X b) hm) fun H0 loc Hs σ H Q x y v u ee A r1 r2 h => hr x y v u H Q _ r1.top r2.top (h.imp (fun z q => q.go (.bl z)) fun _ q => q) (h.get (hn x y))
/-- the wish of a test -/
def Wb (G : Gv) (Q : Bool → Hp → Prop) (b : Bool) (H : Hp) : Prop := ∀ H', Ex G H H' → Q b H'
theorem wb_on {Q : Bool → Hp → Prop} (d : Bool) (H1 H2 : Hp) (e : Ex G H1 H2) (h : Wb G Q d H1) : Wb G Q d H2 := fun H3 e3 => h H3 (e.trans e3)
abbrev TB (G : Gv) (X : Cx) (W : WX) (Γ : List Sl) (e : Expr) (m : Res Bool) : Prop := ET G X W Γ e m
theorem tb_cmp {f : α → β → Res Bool} (hf : CmpR G X op f) (hn : Calm2 f) {m : Res α} {n : Res β} (ha : TV G X W Γ Ra a m) (hb : TV G X W Γ Rb b n) (hm : behindInMarks op b = false) :
    TB G X W Γ (.Compare a [op] [b] pos) (m.bind fun x => n.bind fun y => f x y) := by
  obtain ⟨r, ho, hr⟩ := hf
  intro H0 loc σ H Q A h pins s I
  refine (pt_cmpR ho (peW X a) (peW X b) hm).run pins s σ H Q I (we2t ha hb A (p := fun z H => Wb G Q z H) (fun r H1 H2 e q => wb_on _ _ _ e q) h fun x y v u H' _ A' r1 r2 h' => ?_)
  exact hr x y v u H' _ _ r1.top r2.top (h'.imp (fun z q => ⟨z, rfl, q H' (.refl H')⟩) fun _ q => q) (h'.get (hn x y))
/-- an expression that gives True or False -/
theorem tb_val {m : Res Bool} (ha : TV G X W Γ Ra a m) (he : ∀ whole, isTrue a X.env whole = (do let v ← whole; standAt a.pos; holding [v] (truthy v)) := by intro _; rfl) : TB G X W Γ a m := by
  intro H0 loc σ H Q A h pins s I
  refine (pt_val (peW X a) he).run pins s σ H Q I (ha H0 loc σ H _ A (Po.mapI (h.imp (fun z q v H' e r => ⟨z, rp_bl r, q H' e⟩) fun _ q => q)))
theorem tb_not {m : Res Bool} (ha : TB G X W Γ a m) : TB G X W Γ (.UnaryOp .Not a pos) (m.bind fun b => .ok (!b)) := by
  intro H0 loc σ H Q A h pins s I
  exact (pt_not (ptW X a)).run pins s σ H Q I (ha H0 loc σ H _ A (h.bind.imp (fun z q H' e => q H' e) fun _ q => q))
def andR (m : Res Bool) (n : Res Bool) : Res Bool := m.bind fun b => if b = true then n else .ok false
def orR (m : Res Bool) (n : Res Bool) : Res Bool := m.bind fun b => if b = true then .ok true else n
/-- and, or: the parts from the left -/
abbrev TO2 (G : Gv) (X : Cx) (W : WX) (Γ : List Sl) (e : Expr) (m : Res Bool) : Prop := ∃ t, PW X e t ∧ ∀ (H0 : Bs) (loc : Nat → Addr) (σ : L2.St) (H : Hp) (Q : Bool → Hp → Prop), At G Γ H0 loc σ H →
    Po m (fun b => ∀ H', Ex G H H' → Q b H') (Xw G W σ H) → t σ H Q
theorem to_and1 {m : Res Bool} (ha : TB G X W Γ a m) : TO2 G X W Γ (.BoolOp .And [a] pos) m := ⟨_, pw_and1 (ptW X a), fun H0 loc σ H Q A h => ha H0 loc σ H Q A h⟩
theorem to_or1 {m : Res Bool} (ha : TB G X W Γ a m) : TO2 G X W Γ (.BoolOp .Or [a] pos) m := ⟨_, pw_or1 (ptW X a), fun H0 loc σ H Q A h => ha H0 loc σ H Q A h⟩
theorem to_and {es : List Expr} {m n : Res Bool} (ha : TB G X W Γ a m) (hb : TO2 G X W Γ (.BoolOp .And (b :: es) pos) n) : TO2 G X W Γ (.BoolOp .And (a :: b :: es) pos) (andR m n) := by
  obtain ⟨t, ht, hq⟩ := hb
  refine ⟨_, pw_and (ptW X a) ht, fun H0 loc σ H Q A h => ha H0 loc σ H _ A (h.bind.imp (fun z q H1 e1 => ?_) fun _ q => q)⟩
  cases z with
  | true =>
    rw [if_pos rfl] at q ⊢
    exact hq H0 loc σ H1 Q (A.on e1) (Po.on e1 q fun b z H2 e2 => z H2 (e1.trans e2))
  | false =>
    rw [if_neg Bool.false_ne_true] at q ⊢
    exact q H1 e1
theorem to_or {es : List Expr} {m n : Res Bool} (ha : TB G X W Γ a m) (hb : TO2 G X W Γ (.BoolOp .Or (b :: es) pos) n) : TO2 G X W Γ (.BoolOp .Or (a :: b :: es) pos) (orR m n) := by
  obtain ⟨t, ht, hq⟩ := hb
  refine ⟨_, pw_or (ptW X a) ht, fun H0 loc σ H Q A h => ha H0 loc σ H _ A (h.bind.imp (fun z q H1 e1 => ?_) fun _ q => q)⟩
  cases z with
  | false =>
    rw [if_neg Bool.false_ne_true] at q ⊢
    exact hq H0 loc σ H1 Q (A.on e1) (Po.on e1 q fun b z H2 e2 => z H2 (e1.trans e2))
  | true =>
    rw [if_pos rfl] at q ⊢
    exact q H1 e1
theorem tb_of {m : Res Bool} (h : TO2 G X W Γ e m) : TB G X W Γ e m := by
  obtain ⟨t, ht, hq⟩ := h
  exact fun H0 loc σ H Q A h pins s I => ht.pt.run pins s σ H Q I (hq H0 loc σ H Q A h)
/-- .. as values -/
theorem tv_and1 {m : Res Bool} {o : BoolOp} (ha : TV G X W Γ Ra a m) : TV G X W Γ Ra (.BoolOp o [a] pos) m := fun H0 loc σ H Q A h pins s I => (pe_one (peW X a)).run pins s σ H Q I (ha H0 loc σ H Q A h)
theorem tv_and {es : List Expr} {m n : Res Bool} (ha : TV G X W Γ Ra a m) (hb : TV G X W Γ Rb (.BoolOp .And (b :: es) pos) n) : TV G X W Γ R (.BoolOp .And (a :: b :: es) pos) (andR m n) := by
  intro H0 loc σ H Q A h pins s I
  refine (pe_and (peW X a) (peW X _)).run pins s σ H Q I (ha H0 loc σ H _ A (Po.mapI ((Po.map h).bind.imp (fun z q v H1 e1 r => ⟨z, rp_bl r, ?_⟩) fun _ q => q)))
  cases z with
  | true =>
    rw [if_pos rfl] at q ⊢
    exact hb H0 loc σ H1 Q (A.on e1) (Po.mapI (Po.on e1 q fun b z v H2 e2 r => z v H2 (e1.trans e2) (by cases r; exact .bl _)))
  | false =>
    rw [if_neg Bool.false_ne_true] at q ⊢
    exact q _ H1 e1 (.bl false)
theorem tv_or {es : List Expr} {m n : Res Bool} (ha : TV G X W Γ Ra a m) (hb : TV G X W Γ Rb (.BoolOp .Or (b :: es) pos) n) : TV G X W Γ R (.BoolOp .Or (a :: b :: es) pos) (orR m n) := by
  intro H0 loc σ H Q A h pins s I
  refine (pe_or (peW X a) (peW X _)).run pins s σ H Q I (ha H0 loc σ H _ A (Po.mapI ((Po.map h).bind.imp (fun z q v H1 e1 r => ⟨z, rp_bl r, ?_⟩) fun _ q => q)))
  cases z with
  | false =>
    rw [if_neg Bool.false_ne_true] at q ⊢
    exact hb H0 loc σ H1 Q (A.on e1) (Po.mapI (Po.on e1 q fun b z v H2 e2 r => z v H2 (e1.trans e2) (by cases r; exact .bl _)))
  | true =>
    rw [if_pos rfl] at q ⊢
    exact q _ H1 e1 (.bl true)
theorem tv_not {m : Res Bool} (ha : TV G X W Γ Ra a m) : TV G X W Γ R (.UnaryOp .Not a pos) (m.bind fun b => .ok (!b)) :=
  tv1 ha (t := fun t => tNotV t) (pe_not (peW X a)) fun H0 loc σ H Q A K => K _ fun x v H' e A' r h => ⟨x, rp_bl r, h.go (.bl _)⟩
/-- a if c else b -/
theorem tv_ifExp {t : Res Bool} {m n : Res α} (hc : TB G X W Γ c t) (ha : TV G X W Γ R a m) (hb : TV G X W Γ R b n) : TV G X W Γ R (.IfExp c a b pos) (t.bind fun z => if z = true then m else n) := by
  intro H0 loc σ H Q A h pins s I
  refine (pe_ifExp (ptW X c) (peW X a) (peW X b)).run pins s σ H Q I (hc H0 loc σ H _ A ((Po.map h).bind.imp (fun z q H1 e1 => ?_) fun _ q => q))
  cases z with
  | true =>
    rw [if_pos rfl] at q ⊢
    exact ha H0 loc σ H1 Q (A.on e1) (Po.mapI (Po.on e1 q fun b z v H2 e2 r => z v H2 (e1.trans e2) (r.back e1)))
  | false =>
    rw [if_neg Bool.false_ne_true] at q ⊢
    exact hb H0 loc σ H1 Q (A.on e1) (Po.mapI (Po.on e1 q fun b z v H2 e2 r => z v H2 (e1.trans e2) (r.back e1)))
end
end CS
namespace CS
open Enc (enc)
open PySem PySem.Spec PyProof.Rows L2
open PySem.W (Datum Holds HoldAll)

/-- no list, no dict within: it may stand anywhere -/
class Flat (α : Type) [Enc α] : Prop where
  any : ∀ (G : Gv) (S S' : Addr → Prop) (H : Hp) (v : V) (x : α), Rp G S H v (enc x) → Rp G S' H v (enc x)
instance : Flat Int := ⟨fun _ _ _ _ _ x h => by rw [rp_int h]; exact .int x⟩
instance : Flat Bool := ⟨fun _ _ _ _ _ x h => by rw [rp_bl h]; exact .bl x⟩
instance : Flat Str := ⟨fun _ _ _ _ _ x h => by rw [rp_str h]; exact .str x⟩
instance : Flat Unit := ⟨fun _ _ _ _ _ x h => by rw [rp_non h]; exact .non⟩
instance : Flat Scr := ⟨fun _ _ _ _ _ x h => by obtain ⟨a, e, q⟩ := rp_scr h; rw [e]; exact .scr q⟩
section
variable {α β γ δ : Type} [Enc α] [Enc β] [Enc γ] [Enc δ] [Flat α] [Flat β] [Flat γ] [Flat δ]
theorem rps_flat {G : Gv} {S S' : Addr → Prop} {H : Hp} : ∀ {xs : List α} {vs : List V}, Rps G S H vs (xs.map enc) → Rps G S' H vs (xs.map enc)
  | [], _, .nil => .nil
  | x :: xs, _, .cons r t => .cons (Flat.any G S S' H _ x r) (rps_flat t)
instance : Flat (α × β) := ⟨fun G S S' H v x h => by
  obtain ⟨a, vs, e, q, r⟩ := rp_tup (ds := [enc x.1, enc x.2]) h
  subst e
  cases r with
  | cons r1 r => cases r with
    | cons r2 r => cases r; exact .tup q (.cons (Flat.any G S S' H _ _ r1) (.cons (Flat.any G S S' H _ _ r2) .nil))⟩
instance : Flat (T3 α β γ) := ⟨fun G S S' H v x h => by
  obtain ⟨a, vs, e, q, r⟩ := rp_tup (ds := [enc x.a, enc x.b, enc x.c]) h
  subst e
  cases r with
  | cons r1 r => cases r with
    | cons r2 r => cases r with
      | cons r3 r => cases r; exact .tup q (.cons (Flat.any G S S' H _ _ r1) (.cons (Flat.any G S S' H _ _ r2) (.cons (Flat.any G S S' H _ _ r3) .nil)))⟩
instance : Flat (T4 α β γ δ) := ⟨fun G S S' H v x h => by
  obtain ⟨a, vs, e, q, r⟩ := rp_tup (ds := [enc x.a, enc x.b, enc x.c, enc x.d]) h
  subst e
  cases r with
  | cons r1 r => cases r with
    | cons r2 r => cases r with
      | cons r3 r => cases r with
        | cons r4 r => cases r; exact .tup q (.cons (Flat.any G S S' H _ _ r1) (.cons (Flat.any G S S' H _ _ r2) (.cons (Flat.any G S S' H _ _ r3) (.cons (Flat.any G S S' H _ _ r4) .nil))))⟩
end

section
variable {G : Gv} {X : Cx} {W : WX} {Γ : List Sl} {N : List Str} {sc : Scope} {k : Nat} {R Ra Rb Rc : Rg} {pos p : Pos} {a b c e o : Expr} {es : List Expr} {α β γ δ ρ : Type} [Enc α] [Enc β] [Enc γ] [Enc δ]
theorem Res.map_bind {m : Res α} {f : α → Res β} {g : β → γ} : (m.bind f).map g = m.bind fun x => (f x).map g := by cases m <;> rfl
theorem tv_flat [Flat α] {m : Res α} (h : TV G X W Γ Ra e m) : TV G X W Γ R e m := fun H0 loc σ H Q A q =>
  h H0 loc σ H Q A (Po.mapI (Po.imp (Po.map q) (fun x hx v H' e r => hx v H' e (Flat.any G _ _ H' v x r)) fun _ z => z))
theorem tv_any {m : Res α} (h : TV G X W Γ Ra e m) : TV G X W Γ .top e m := fun H0 loc σ H Q A q =>
  h H0 loc σ H Q A (Po.mapI (Po.imp (Po.map q) (fun x hx v H' e r => hx v H' e r.top) fun _ z => z))
theorem tv_av {m : Res α} (h : TV G X W Γ .nw e m) : TV G X W Γ .av e m := fun H0 loc σ H Q A q =>
  h H0 loc σ H Q A (Po.mapI (Po.imp (Po.map q) (fun x hx v H' e r => hx v H' e (r.sub fun a s _ => A.av s)) fun _ z => z))
theorem tv_fr {m : Res α} (h : TV G X W Γ .nw e m) : TV G X W Γ .fr e m := fun H0 loc σ H Q A q =>
  h H0 loc σ H Q A (Po.mapI (Po.imp (Po.map q) (fun x hx v H' e r => hx v H' e (r.sub fun a s _ => A.ex.f a s)) fun _ z => z))
/-- a value of a type that is known no further -/
theorem tv_dt {m : Res α} (h : TV G X W Γ R e m) : TV G X W Γ R e (m.map enc) := by
  have e2 : (m.map enc).map (enc : Dt → Dt) = m.map enc := by cases m <;> rfl
  show EV G X W Γ R e ((m.map enc).map enc)
  rw [e2]; exact h
class Dec (α : Type) [Enc α] where
  dec : Dt → Option α
  ok : ∀ d x, dec d = some x → d = enc x
def cast (α : Type) [Enc α] [Dec α] (d : Dt) : Res α := match Dec.dec d with
  | some x => .ok x
  | none => .err
theorem tv_cast [Dec α] {m : Res Dt} (h : TV G X W Γ R e m) : TV G X W Γ R e (m.bind (cast α)) := fun H0 loc σ H Q A q =>
  h H0 loc σ H Q A (Po.mapI ((Po.bind (Po.map q)).imp (fun d hd v H' e r => by
    unfold cast at hd
    split at hd
    · rename_i x hx
      have := Dec.ok d x hx
      rw [this] at r
      exact hd v H' e r
    · exact hd.elim) fun _ z => z))

/-! ### arguments -/
def tnil : Unit → List Dt := fun _ => []
def tcons {α ρ : Type} [Enc α] (t : ρ → List Dt) : α × ρ → List Dt := fun p => enc p.1 :: t p.2
def EAt (G : Gv) (X : Cx) (W : WX) (Γ : List Sl) (R : Rg) (es : List Expr) {ρ : Type} (m : Res ρ) (t : ρ → List Dt) : Prop :=
  ∀ (H0 : Bs) (loc : Nat → Addr) (σ : L2.St) (H : Hp) (Q : List V → Hp → Prop), At G Γ H0 loc σ H →
    Po m (fun ds => ∀ vs H', Ex G H H' → Rps G (rg R Γ H0 loc H) H' vs (t ds) → Q vs H') (Xw G W σ H) → WA X es σ H Q
theorem ea_nil : EAt G X W Γ R [] (.ok ()) tnil := fun H0 loc σ H Q A h pos pins s I => pa_nil.run pos pins s σ H Q I (h [] H (.refl H) .nil)
theorem ea_cons {m : Res α} {n : Res ρ} {t : ρ → List Dt} (ha : TV G X W Γ R a m) (hs : EAt G X W Γ R es n t) (hst : starEach (a :: es) X.env = (false, eval a X.env) :: starEach es X.env := by rfl) :
    EAt G X W Γ R (a :: es) (m.bind fun x => n.bind fun r => .ok (x, r)) (tcons t) := fun H0 loc σ H Q A h pos pins s I =>
  (pa_cons (peW X a) (paW X es) hst).run pos pins s σ H Q I (ha H0 loc σ H _ A (Po.mapI (h.bind.imp (fun x hx v H1 e1 r1 => hs H0 loc σ H1 _ (A.on e1) ((Po.on e1 hx.bind fun r z => z).imp (fun r z vs H2 e2 r2 => z (v :: vs) H2 (e1.trans e2) (.cons (r1.ex e2) (r2.back e1))) fun _ z => z)) fun _ z => z)))
/-- any parts -/
theorem ea_top {m : Res ρ} {t : ρ → List Dt} (h : EAt G X W Γ Ra es m t) : EAt G X W Γ .top es m t := fun H0 loc σ H Q A q => h H0 loc σ H Q A (q.imp (fun r z vs H' e r => z vs H' e r.top) fun _ z => z)

/-! ### displays -/
theorem tv_list {m : Res ρ} {t : ρ → List Dt} (ha : EAt G X W Γ R es m t) (f : ρ → List α) (ht : ∀ r, t r = (f r).map enc) (hl : es.length ≤ 1000) (hw : ∀ r, (t r).length = es.length) : TV G X W Γ R (.List es pos) (m.bind fun r => .ok (f r)) := fun H0 loc σ H Q A h pins s I =>
  (pe_lst (paW X es)).run pins s σ H Q I (ha H0 loc σ H _ A ((Po.map h).bind.imp (fun r z vs H' e rp => ⟨by rw [rp.len, hw, sz_eq]; exact Nat.le_trans hl (by decide), fun q hq => z _ _ (e.trans (.new hq)) (.lst (rg_new (A.on e) e hq) upd_same (by rw [← ht]; exact rp.ex (.new hq)))⟩) fun _ z => z))
theorem tv_tup {x1 : Nat} {m : Res ρ} {t : ρ → List Dt} (ha : EAt G X W Γ R es m t) (f : ρ → α) (ht : ∀ r, enc (f r) = Dt.tup (t r)) (hl : es.length ≤ 1000) (hw : ∀ r, (t r).length = es.length) : TV G X W Γ R (.Tuple es x1 pos) (m.bind fun r => .ok (f r)) := fun H0 loc σ H Q A h pins s I =>
  (pe_tup (paW X es)).run pins s σ H Q I (ha H0 loc σ H _ A ((Po.map h).bind.imp (fun r z vs H' e rp => ⟨by rw [rp.len, hw, sz_eq]; exact Nat.le_trans hl (by decide), fun q hq => z _ _ (e.trans (.new hq)) (by rw [ht]; exact .tup (.inl (.inl upd_same)) (rp.ex (.new hq)))⟩) fun _ z => z))
theorem tv_dict0 {κ : Type} [EKey κ] : TV G X W Γ R (.Dict [] [] pos) (.ok (Dct.mk ([] : List (κ × α)))) := fun H0 loc σ H Q A h pins s I =>
  pe_dnewK.run pins s σ H Q I fun q hq => h _ _ (.new hq) (.dct (rg_new A (.refl H) hq) (.inl upd_same) .nil)

/-! ### subscripts -/
/-- the item at i -/
def getI {α : Type} (xs : List α) (i : Int) : Res α := match atI xs i with
  | some x => .ok x
  | none => .err
theorem getI_po {α : Type} {xs : List α} {i : Int} {p : α → Prop} {q : Exn → Prop} (h : Po (getI xs i) p q) : ∃ x, atI xs i = some x ∧ p x := by
  unfold getI at h
  split at h
  · exact ⟨_, by assumption, h⟩
  · exact h.elim
theorem Rps.atI {S : Addr → Prop} {H : Hp} {vs : List V} {ds : List Dt} (h : Rps G S H vs ds) {i : Int} {d : Dt} (e : L2.atI ds i = some d) : ∃ v, L2.atI vs i = some v ∧ Rp G S H v d := by
  unfold L2.atI at e ⊢
  rw [h.len]
  cases hj : ixN ds.length i with
  | none => rw [hj] at e; cases e
  | some j =>
    rw [hj] at e
    exact h.get (i := j) e
theorem atI_map {α β : Type} {xs : List α} {f : α → β} {i : Int} {x : α} (h : L2.atI xs i = some x) : L2.atI (xs.map f) i = some (f x) := by
  unfold L2.atI at h ⊢
  rw [List.length_map]
  cases hj : ixN xs.length i with
  | none => rw [hj] at h; cases h
  | some j =>
    rw [hj] at h
    have h' : xs[j]? = some x := h
    show (xs.map f)[j]? = some (f x)
    rw [List.getElem?_map, h']; rfl
theorem tv_ix {m : Res (List α)} {n : Res Int} (C : Dx G X W N sc k) (ha : TV G X W Γ Ra a m) (hb : TV G X W Γ Rb b n) (hs : PlainIx b := by exact fun _ _ => rfl) : TV G X W Γ Ra (.Subscript a b pos) (m.bind fun x => n.bind fun i => getI x i) :=
  tv2 ha hb (pe_ix ix_list (peW X a) (peW X b) hs) fun H0 loc Hs σ H Q x i v u ee A r1 r2 h => by
    obtain ⟨y, hy, h⟩ := getI_po h
    obtain ⟨q, vs, ev, hs, hv, rs⟩ := rp_lst (ds := x.map enc) r1
    obtain ⟨w, hw, rw⟩ := rs.atI (atI_map hy)
    exact ⟨q, vs, i, w, ev, rp_int r2, SqL.of hv, hw, h.go rw⟩
theorem tv_ixScr {m : Res Scr} {n : Res Int} (C : Dx G X W N sc k) (ha : TV G X W Γ Ra a m) (hb : TV G X W Γ Rb b n) (hs : PlainIx b := by exact fun _ _ => rfl) : TV G X W Γ R (.Subscript a b pos) (m.bind fun x => n.bind fun i => getI x.ns i) :=
  tv2 ha hb (pe_ix ix_list (peW X a) (peW X b) hs) fun H0 loc Hs σ H Q x i v u ee A r1 r2 h => by
    obtain ⟨y, hy, h⟩ := getI_po h
    obtain ⟨q, ev, hv⟩ := rp_scr (ns := x.ns) r1
    exact ⟨q, _, i, .int y, ev, rp_int r2, by rw [C.K]; exact hv.seq, atI_map hy, h.go (.int y)⟩
/-- an item of a tuple, at a written place -/
theorem tv_ixT {m : Res α} {i : Int} {j : Nat} {cp : Pos} (C : Dx G X W N sc k) (ha : TV G X W Γ Ra a m) (f : α → β) (ht : ∀ x, ∃ ds, enc x = Dt.tup ds ∧ L2.atI ds i = some (enc (f x))) : TV G X W Γ Ra (.Subscript a (.Constant (.int i) j cp) pos) (m.bind fun x => .ok (f x)) := fun H0 loc σ H Q A h pins s I =>
  (pe_ix ix_tup (peW X a) (peW X _) (fun _ _ => rfl)).run pins s σ H Q I (ha H0 loc σ H _ A (Po.mapI ((Po.map h).bind.imp (fun x z v H1 e1 r1 => by
    intro pins s I
    refine pe_int.run pins s σ H1 _ I ?_
    obtain ⟨ds, e2, e3⟩ := ht x
    rw [e2] at r1
    obtain ⟨q, vs, ev, hs, rs⟩ := rp_tup r1
    obtain ⟨w, hw, rw⟩ := rs.atI e3
    exact ⟨q, vs, i, w, ev, rfl, by rw [C.K]; exact hs, hw, z w H1 e1 rw⟩) fun _ z => z)))
def chrS (c : Nat) : Str := ⟨#[c]⟩
def getS (z : Str) (i : Int) : Res Str := if z.length ≤ SZ then (match atI z.cps.toList i with
  | some c => .ok (chrS c)
  | none => .err) else .err
theorem getS_po {z : Str} {i : Int} {p : Str → Prop} {q : Exn → Prop} (h : Po (getS z i) p q) : z.length ≤ sizeLine ∧ ∃ c, atI z.cps.toList i = some c ∧ p (chrS c) := by
  unfold getS at h
  split at h
  · split at h
    · exact ⟨by rw [sz_eq]; assumption, _, by assumption, h⟩
    · exact h.elim
  · exact h.elim
theorem tv_ixS {m : Res Str} {n : Res Int} (ha : TV G X W Γ Ra a m) (hb : TV G X W Γ Rb b n) (hs : PlainIx b := by exact fun _ _ => rfl) : TV G X W Γ R (.Subscript a b pos) (m.bind fun x => n.bind fun i => getS x i) :=
  tv2 ha hb (pe_ix ix_str (peW X a) (peW X b) hs) fun H0 loc Hs σ H Q x i v u ee A r1 r2 h => by
    obtain ⟨hz, c, hc, h⟩ := getS_po h
    exact ⟨x, i, c, rp_str r1, rp_int r2, hz, hc, h.go (.str _)⟩

/-! ### slices -/
/-- an end of a slice -/
def EO (G : Gv) (X : Cx) (W : WX) (Γ : List Sl) (eo : Option Expr) (m : Res (Option Int)) : Prop := ∃ t, PO X eo t ∧ ∀ (H0 : Bs) (loc : Nat → Addr) (σ : L2.St) (H : Hp) (Q : Option Int → Hp → Prop), At G Γ H0 loc σ H →
    Po m (fun i => ∀ H', Ex G H H' → Q i H') (Xw G W σ H) → t σ H Q
theorem eo_none : EO G X W Γ none (.ok none) := ⟨_, po_none, fun H0 loc σ H Q A h => h H (.refl H)⟩
theorem eo_some {n : Res Int} (hb : TV G X W Γ Rb b n) : EO G X W Γ (some b) (n.bind fun i => .ok (some i)) := ⟨_, po_some (peW X b), fun H0 loc σ H Q A h => hb H0 loc σ H _ A (Po.mapI (h.bind.imp (fun i z v H' e r => ⟨i, rp_int r, z H' e⟩) fun _ z => z))⟩
def cutL {α : Type} (xs : List α) (lo hi : Option Int) : List α := (xs.drop (HT.sIx xs.length 0 lo)).take (HT.sIx xs.length xs.length hi - HT.sIx xs.length 0 lo)
theorem Rps.cut {S : Addr → Prop} {H : Hp} {vs : List V} {xs : List α} (h : Rps G S H vs (xs.map enc)) (lo hi : Option Int) : Rps G S H (cutV vs lo hi) ((cutL xs lo hi).map enc) := by
  unfold cutV cutL
  rw [List.map_take, List.map_drop, h.len, List.length_map]
  exact (h.drop _).take _
theorem tv_sl {lo hi : Option Expr} {p2 : Pos} {m : Res α} {l u : Res (Option Int)} {f : α → Option Int → Option Int → Res β} {r : V → Option Int → Option Int → Hp → VK → Prop} (hr : SlR X r) (ha : TV G X W Γ Ra a m) (hl : EO G X W Γ lo l) (hu : EO G X W Γ hi u)
    (hq : ∀ (H0 : Bs) (loc : Nat → Addr) (Hs : Hp) (σ : L2.St) (H : Hp) (Q : VK) x i j v, Ex G Hs H → At G Γ H0 loc σ H → Rp G (rg Ra Γ H0 loc Hs) H v (enc x) → Po (f x i j) (fun z => Wv G (rg R Γ H0 loc Hs) Q (enc z) H) (Xw G W σ H) → r v i j H Q) :
    TV G X W Γ R (.Subscript a (.Slice lo hi none p2) pos) (m.bind fun x => l.bind fun i => u.bind fun j => f x i j) := by
  obtain ⟨tl, pl, ql⟩ := hl
  obtain ⟨tu, pu, qu⟩ := hu
  intro H0 loc σ H Q A h pins s I
  refine (pe_slice hr (peW X a) pl pu).run pins s σ H Q I (ha H0 loc σ H _ A (Po.mapI ((Po.map h).bind.imp (fun x z v H1 e1 r1 => ?_) fun _ z => z)))
  refine ql H0 loc σ H1 _ (A.on e1) ((Po.on e1 z.bind fun r z => z).imp (fun i z H2 e2 => ?_) fun _ z => z)
  refine qu H0 loc σ H2 _ (A.on (e1.trans e2)) ((Po.on (e1.trans e2) z.bind fun r z => z).imp (fun j z H3 e3 => ?_) fun _ z => z)
  exact hq H0 loc H σ H3 Q x i j v ((e1.trans e2).trans e3) (A.on ((e1.trans e2).trans e3)) (r1.ex (e2.trans e3)) (Po.on ((e1.trans e2).trans e3) z fun y q v H4 e4 r => q v H4 (((e1.trans e2).trans e3).trans e4) r)
theorem tv_slL {lo hi : Option Expr} {p2 : Pos} {m : Res (List α)} {l u : Res (Option Int)} (ha : TV G X W Γ R a m) (hl : EO G X W Γ lo l) (hu : EO G X W Γ hi u) : TV G X W Γ R (.Subscript a (.Slice lo hi none p2) pos) (m.bind fun x => l.bind fun i => u.bind fun j => .ok (cutL x i j)) :=
  tv_sl sl_list ha hl hu fun H0 loc Hs σ H Q x i j v ee A r h => by
    obtain ⟨q, vs, ev, hs, hv, rs⟩ := rp_lst (ds := x.map enc) r
    exact ⟨q, vs, ev, SqL.of hv, fun p hp => h _ _ (.new hp) (.lst (rg_new A ee hp) upd_same ((rs.cut i j).ex (.new hp)))⟩
/-- .. of a list of flat things -/
theorem tv_slF [Flat α] {lo hi : Option Expr} {p2 : Pos} {m : Res (List α)} {l u : Res (Option Int)} (ha : TV G X W Γ Ra a m) (hl : EO G X W Γ lo l) (hu : EO G X W Γ hi u) : TV G X W Γ R (.Subscript a (.Slice lo hi none p2) pos) (m.bind fun x => l.bind fun i => u.bind fun j => .ok (cutL x i j)) :=
  tv_sl sl_list ha hl hu fun H0 loc Hs σ H Q x i j v ee A r h => by
    obtain ⟨q, vs, ev, hs, hv, rs⟩ := rp_lst (ds := x.map enc) r
    exact ⟨q, vs, ev, SqL.of hv, fun p hp => h _ _ (.new hp) (.lst (rg_new A ee hp) upd_same (rps_flat ((rs.cut i j).ex (.new hp))))⟩
theorem tv_slScr {lo hi : Option Expr} {p2 : Pos} {m : Res Scr} {l u : Res (Option Int)} (C : Dx G X W N sc k) (ha : TV G X W Γ Ra a m) (hl : EO G X W Γ lo l) (hu : EO G X W Γ hi u) : TV G X W Γ R (.Subscript a (.Slice lo hi none p2) pos) (m.bind fun x => l.bind fun i => u.bind fun j => .ok (cutL x.ns i j)) :=
  tv_sl sl_list ha hl hu fun H0 loc Hs σ H Q x i j v ee A r h => by
    obtain ⟨q, ev, hv⟩ := rp_scr (ns := x.ns) r
    refine ⟨q, _, ev, by rw [C.K]; exact hv.seq, fun p hp => h _ _ (.new hp) (.lst (rg_new A ee hp) upd_same ?_)⟩
    have r0 : Rps G (rg R Γ H0 loc Hs) (upd H p (.lst (cutV (x.ns.map V.int) i j))) (x.ns.map V.int) (x.ns.map enc) := rps_ints x.ns
    exact r0.cut i j
def cutR (z : Str) (i j : Option Int) : Res Str := okIf (z.length ≤ SZ) (cutS z i j)
theorem tv_slS {lo hi : Option Expr} {p2 : Pos} {m : Res Str} {l u : Res (Option Int)} (ha : TV G X W Γ Ra a m) (hl : EO G X W Γ lo l) (hu : EO G X W Γ hi u) : TV G X W Γ R (.Subscript a (.Slice lo hi none p2) pos) (m.bind fun x => l.bind fun i => u.bind fun j => cutR x i j) :=
  tv_sl sl_str ha hl hu fun H0 loc Hs σ H Q x i j v ee A r h => by
    obtain ⟨hz, h⟩ := h.okIf
    exact ⟨x, rp_str r, by rw [sz_eq]; exact hz, h.go (.str _)⟩
/-- xs[::-1] -/
theorem tv_rev [Flat α] {j : Nat} {p1 p2 p3 : Pos} {m : Res (List α)} (ha : TV G X W Γ Ra a m) : TV G X W Γ R (.Subscript a (.Slice none none (some (.UnaryOp .USub (.Constant (.int 1) j p1) p2)) p3) pos) (m.bind fun x => .ok x.reverse) :=
  tv1 ha (t := fun t => tRevL X.K t) (pe_revL (peW X a)) fun H0 loc σ H Q A K => K _ fun x v H' e A' r h => by
    obtain ⟨q, vs, ev, hs, hv, rs⟩ := rp_lst (ds := x.map enc) r
    exact ⟨q, vs, ev, SqL.of hv, fun p hp => h _ _ (.new hp) (.lst (rg_new A' e hp) upd_same (rps_flat (by rw [List.map_reverse]; exact rs.rev.ex (.new hp))))⟩

/-! ### texts and lists put together -/
def catS (x y : Str) : Res Str := okIf (x.length + y.length ≤ SZ) (x ++ y)
theorem tv_catS {m n : Res Str} (ha : TV G X W Γ Ra a m) (hb : TV G X W Γ Rb b n) : TV G X W Γ R (.BinOp a .Add b pos) (m.bind fun x => n.bind fun y => catS x y) :=
  tv2 ha hb (pe_op op_add_str (peW X a) (peW X b)) fun H0 loc Hs σ H Q x y v u ee A r1 r2 h => by
    obtain ⟨c, h⟩ := h.okIf
    exact ⟨x, y, rp_str r1, rp_str r2, by rw [sz_eq]; exact c, h.go (.str _)⟩
def catL {α : Type} (x y : List α) : Res (List α) := okIf (x.length + y.length ≤ SZ) (x ++ y)
theorem tv_catL {m n : Res (List α)} (ha : TV G X W Γ R a m) (hb : TV G X W Γ R b n) : TV G X W Γ R (.BinOp a .Add b pos) (m.bind fun x => n.bind fun y => catL x y) :=
  tv2 ha hb (pe_op op_cat (peW X a) (peW X b)) fun H0 loc Hs σ H Q x y v u ee A r1 r2 h => by
    obtain ⟨c, h⟩ := h.okIf
    obtain ⟨q, vs, ev, hs, hv, rs⟩ := rp_lst (ds := x.map enc) r1
    obtain ⟨q', vs', ev', hs', hv', rs'⟩ := rp_lst (ds := y.map enc) r2
    refine ⟨q, q', vs, vs', ev, ev', hv, hv', by rw [rs.len, rs'.len, List.length_map, List.length_map, sz_eq]; exact c, fun p hp => h _ _ (.new hp) (.lst (rg_new A ee hp) upd_same ?_)⟩
    rw [List.map_append]
    exact (rs.app rs').ex (.new hp)
theorem tv_catF [Flat α] {m n : Res (List α)} (ha : TV G X W Γ Ra a m) (hb : TV G X W Γ Rb b n) : TV G X W Γ R (.BinOp a .Add b pos) (m.bind fun x => n.bind fun y => catL x y) :=
  tv2 ha hb (pe_op op_cat (peW X a) (peW X b)) fun H0 loc Hs σ H Q x y v u ee A r1 r2 h => by
    obtain ⟨c, h⟩ := h.okIf
    obtain ⟨q, vs, ev, hs, hv, rs⟩ := rp_lst (ds := x.map enc) r1
    obtain ⟨q', vs', ev', hs', hv', rs'⟩ := rp_lst (ds := y.map enc) r2
    refine ⟨q, q', vs, vs', ev, ev', hv, hv', by rw [rs.len, rs'.len, List.length_map, List.length_map, sz_eq]; exact c, fun p hp => h _ _ (.new hp) (.lst (rg_new A ee hp) upd_same ?_)⟩
    rw [List.map_append]
    exact (rps_flat (rs.ex (.new hp))).app (rps_flat (rs'.ex (.new hp)))

/-! ### built-in functions -/
/-- a built-in function of one argument, by the argument -/
def Bi1 (G : Gv) (X : Cx) (Γ : List Sl) (Ra R : Rg) (f : Value) {α β : Type} [Enc α] [Enc β] (g : α → Res β) : Prop := ∃ r, CallR X f r ∧ ∀ (H0 : Bs) (loc : Nat → Addr) (Hs : Hp) (σ : L2.St) (H : Hp) (Q : VK) (x : α) (v : V) (q : Exn → Prop), Ex G Hs H → At G Γ H0 loc σ H → Rp G (rg Ra Γ H0 loc Hs) H v (enc x) → Po (g x) (fun z => Wv G (rg R Γ H0 loc Hs) Q (enc z) H) q → (∀ y, g x ≠ .exc y) → r [v] H Q
def Calm1 {α β : Type} (f : α → Res β) : Prop := ∀ x z, f x ≠ .exc z
theorem tv_b1 {id : String} {x : Str} {g : α → Res β} (C : Dx G X W N sc k) (hb : Bi1 G X Γ Ra R (.builtin id) g) (hn : Calm1 g) {m : Res α} (ha : TV G X W Γ Ra a m) (hg : glB sc x = true) (hm : X.mg x = none) (hv : bootBuiltins x = some (.builtin id)) (hn1 : x ≠ "__name__" := by decide) (hdb : (x == ("__debug__" : Str)) = false := by decide)
    (hst : starEach [a] X.env = (false, eval a X.env) :: starEach [] X.env := by rfl) :
    TV G X W Γ R (.Call (.Name x p) [a] [] pos) (m.bind g) := by
  obtain ⟨r, hc, hr⟩ := hb
  intro H0 loc σ H Q A h pins s I
  refine (pe_callB hc (gl_of C hg) hm hv (pa_cons (peW X a) pa_nil hst) hn1 hdb hst).run pins s σ H Q I (ha H0 loc σ H _ A (Po.mapI ((Po.map h).bind.imp (fun x z v H1 e1 r1 => ?_) fun _ z => z)))
  exact hr H0 loc H σ H1 Q x v _ e1 (A.on e1) r1 (Po.on e1 z fun y q v H4 e4 r => q v H4 (e1.trans e4) r) (hn x)
theorem tv_t1 {T : String} {x : Str} {g : α → Res β} (C : Dx G X W N sc k) (hb : Bi1 G X Γ Ra R (.type T) g) (hn : Calm1 g) {m : Res α} (ha : TV G X W Γ Ra a m) (hg : glB sc x = true) (hm : X.mg x = none) (hv : bootBuiltins x = some (.type T)) (hn1 : x ≠ "__name__" := by decide) (hdb : (x == ("__debug__" : Str)) = false := by decide)
    (hst : starEach [a] X.env = (false, eval a X.env) :: starEach [] X.env := by rfl) :
    TV G X W Γ R (.Call (.Name x p) [a] [] pos) (m.bind g) := by
  obtain ⟨r, hc, hr⟩ := hb
  intro H0 loc σ H Q A h pins s I
  refine (pe_callTy hc (gl_of C hg) hm hv (pa_cons (peW X a) pa_nil hst) hn1 hdb hst).run pins s σ H Q I (ha H0 loc σ H _ A (Po.mapI ((Po.map h).bind.imp (fun x z v H1 e1 r1 => ?_) fun _ z => z)))
  exact hr H0 loc H σ H1 Q x v _ e1 (A.on e1) r1 (Po.on e1 z fun y q v H4 e4 r => q v H4 (e1.trans e4) r) (hn x)
theorem b_lenL (C : Dx G X W N sc k) : Bi1 G X Γ Ra R (.builtin "len") (fun x : List α => .ok (x.length : Int)) := ⟨_, call_len_seq, fun H0 loc Hs σ H Q x v q ee A r h _ => by
  obtain ⟨q, vs, ev, hs, hv, rs⟩ := rp_lst (ds := x.map enc) r
  have e := rs.len
  rw [List.length_map] at e
  exact ⟨q, vs, by rw [ev], .inl (SqL.of hv), by rw [e]; exact Wv.go h (.int _)⟩⟩
theorem b_lenScr (C : Dx G X W N sc k) : Bi1 G X Γ Ra R (.builtin "len") (fun x : Scr => .ok (x.ns.length : Int)) := ⟨_, call_len_seq, fun H0 loc Hs σ H Q x v q ee A r h _ => by
  obtain ⟨q, ev, hv⟩ := rp_scr (ns := x.ns) r
  exact ⟨q, _, by rw [ev], .inl (by rw [C.K]; exact hv.seq), by rw [List.length_map]; exact Wv.go h (.int _)⟩⟩
def lenS (x : Str) : Res Int := okIf (x.length ≤ SZ) (x.length : Int)
theorem b_lenS : Bi1 G X Γ Ra R (.builtin "len") lenS := ⟨_, call_len_str, fun H0 loc Hs σ H Q x v q ee A r h _ => by
  obtain ⟨c, h⟩ := h.okIf
  exact ⟨x, by rw [rp_str r], by rw [sz_eq]; exact c, h.go (.int _)⟩⟩
theorem b_listF [Flat α] (C : Dx G X W N sc k) : Bi1 G X Γ Ra R (.type "list") (fun x : List α => .ok x) := ⟨_, call_list_of, fun H0 loc Hs σ H Q x v q ee A r h _ => by
  obtain ⟨q, vs, ev, hs, hv, rs⟩ := rp_lst (ds := x.map enc) r
  exact ⟨q, vs, by rw [ev], .inl (SqL.of hv), fun p hp => Wv.go (wv_on _ _ _ (.new hp) h) (.lst (rg_new A ee hp) upd_same (rps_flat (rs.ex (.new hp))))⟩⟩
theorem b_listL (C : Dx G X W N sc k) : Bi1 G X Γ R R (.type "list") (fun x : List α => .ok x) := ⟨_, call_list_of, fun H0 loc Hs σ H Q x v q ee A r h _ => by
  obtain ⟨q, vs, ev, hs, hv, rs⟩ := rp_lst (ds := x.map enc) r
  exact ⟨q, vs, by rw [ev], .inl (SqL.of hv), fun p hp => Wv.go (wv_on _ _ _ (.new hp) h) (.lst (rg_new A ee hp) upd_same (rs.ex (.new hp)))⟩⟩
def strI (i : Int) : Res Str := okIf (i.natAbs.log2 < 1920) (Str.ofString (toString i))
theorem b_str : Bi1 G X Γ Ra R (.type "str") strI := ⟨_, call_str_int, fun H0 loc Hs σ H Q x v q ee A r h _ => by
  obtain ⟨c, h⟩ := h.okIf
  exact ⟨x, by rw [rp_int r], c, h.go (.str _)⟩⟩
def intS (x : Str) : Res Int := match PySem.intText? x with
  | some n => okIf (x.length ≤ 640) n
  | none => .err
theorem b_intS : Bi1 G X Γ Ra R (.type "int") intS := ⟨_, call_int_str, fun H0 loc Hs σ H Q x v q ee A r h _ => by
  unfold intS at h
  split at h
  · rename_i n hn
    obtain ⟨c, h⟩ := h.okIf
    exact ⟨x, n, by rw [rp_str r], hn, c, h.go (.int _)⟩
  · exact h.elim⟩
theorem b_intB : Bi1 G X Γ Ra R (.type "int") (fun b : Bool => .ok (if b then (1 : Int) else 0)) := ⟨_, call_int1, fun H0 loc Hs σ H Q x v q ee A r h _ => .inr ⟨x, by rw [rp_bl r], Wv.go h (.int _)⟩⟩
/-- min, max of two -/
theorem tv_min {x : Str} {m n : Res Int} (C : Dx G X W N sc k) (ha : TV G X W Γ Ra a m) (hb : TV G X W Γ Rb b n) (hg : glB sc "min" = true) (hm : X.mg "min" = none)
    (hst : starEach [a, b] X.env = (false, eval a X.env) :: starEach [b] X.env := by rfl) (hst2 : starEach [b] X.env = (false, eval b X.env) :: starEach [] X.env := by rfl) (hpl : (backTo pos (starEach [b] X.env)).any (·.1) = false := by rfl) : TV G X W Γ R (.Call (.Name "min" p) [a, b] [] pos) (m.bind fun x => n.bind fun y => .ok (if y < x then y else x)) := fun H0 loc σ H Q A h pins s I =>
  (pe_callB (call_min2 C.calm) (gl_of C hg) hm (by decide +kernel) (pa_cons (peW X a) (pa_cons (peW X b) pa_nil hst2) hst) (he := hst) (hpl := hpl)).run pins s σ H Q I (we2t ha hb A (p := fun z H1 => Wv G (rg R Γ H0 loc H) Q (enc z) H1) (fun r H1 H2 e q => wv_on _ _ _ e q) (Po.map h) fun x y v u H' ee A' r1 r2 h' => ⟨x, y, by rw [rp_int r1, rp_int r2], h'.go (.int _)⟩)
theorem tv_max {x : Str} {m n : Res Int} (C : Dx G X W N sc k) (ha : TV G X W Γ Ra a m) (hb : TV G X W Γ Rb b n) (hg : glB sc "max" = true) (hm : X.mg "max" = none)
    (hst : starEach [a, b] X.env = (false, eval a X.env) :: starEach [b] X.env := by rfl) (hst2 : starEach [b] X.env = (false, eval b X.env) :: starEach [] X.env := by rfl) (hpl : (backTo pos (starEach [b] X.env)).any (·.1) = false := by rfl) : TV G X W Γ R (.Call (.Name "max" p) [a, b] [] pos) (m.bind fun x => n.bind fun y => .ok (if y > x then y else x)) := fun H0 loc σ H Q A h pins s I =>
  (pe_callB (call_max2 C.calm) (gl_of C hg) hm (by decide +kernel) (pa_cons (peW X a) (pa_cons (peW X b) pa_nil hst2) hst) (he := hst) (hpl := hpl)).run pins s σ H Q I (we2t ha hb A (p := fun z H1 => Wv G (rg R Γ H0 loc H) Q (enc z) H1) (fun r H1 H2 e q => wv_on _ _ _ e q) (Po.map h) fun x y v u H' ee A' r1 r2 h' => ⟨x, y, by rw [rp_int r1, rp_int r2], h'.go (.int _)⟩)
/-- list(range(a, b)) -/
def rangeL (x y : Int) : Res (List Int) := okIf (-4611686018427387904 ≤ x ∧ x < 4611686018427387904 ∧ -4611686018427387904 ≤ y ∧ y < 4611686018427387904 ∧ (y - x).toNat ≤ SZ) ((List.range (y - x).toNat).map fun i => x + (i : Nat))
theorem tv_lrange {q1 q2 : Pos} {m n : Res Int} (C : Dx G X W N sc k) (ha : TV G X W Γ Ra a m) (hb : TV G X W Γ Rb b n) (hg : glB sc "range" = true) (hm : X.mg "range" = none) (hg2 : glB sc "list" = true) (hm2 : X.mg "list" = none)
    (hst : starEach [a, b] X.env = (false, eval a X.env) :: starEach [b] X.env := by rfl) (hst2 : starEach [b] X.env = (false, eval b X.env) :: starEach [] X.env := by rfl) (hpl : (backTo q2 (starEach [b] X.env)).any (·.1) = false := by rfl) (hst3 : starEach [.Call (.Name "range" q1) [a, b] [] q2] X.env = (false, eval (.Call (.Name "range" q1) [a, b] [] q2) X.env) :: starEach [] X.env := by rfl) :
    TV G X W Γ R (.Call (.Name "list" p) [.Call (.Name "range" q1) [a, b] [] q2] [] pos) (m.bind fun x => n.bind fun y => rangeL x y) := fun H0 loc σ H Q A h pins s I =>
  (pe_listRg C.calm (gl_of C hg2) hm2 (prg_2 (gl_of C hg) hm (peW X a) (peW X b) hst hst2 hpl)).run pins s σ H Q I (we2t ha hb A (p := fun z H1 => Wv G (rg R Γ H0 loc H) Q (enc z) H1) (fun r H1 H2 e q => wv_on _ _ _ e q) (Po.map h) fun x y v u H' ee A' r1 r2 h' => by
    obtain ⟨c, h'⟩ := h'.okIf
    obtain ⟨c1, c2, c3, c4, c5⟩ := c
    refine ⟨x, y, rp_int r1, rp_int r2, ⟨by omega, by omega, by omega, by omega, by unfold SZ at c5; omega⟩, fun q hq => h' _ _ (.new hq) (.lst (rg_new A' ee hq) upd_same ?_)⟩
    unfold rgV
    have e1 : ((List.range (y - x).toNat).map fun i => V.int (x + ((i : Nat) : Int))) = ((List.range (y - x).toNat).map fun i => x + ((i : Nat) : Int)).map V.int := by rw [List.map_map]; rfl
    rw [e1]
    exact rps_ints _)
end
end CS
namespace CS
open Enc (enc)
open PySem PySem.Spec PyProof.Rows L2

/-! ### what a def promises -/
def Ct (G : Gv) (R : List Dt → Res Dt → Prop) : Sp := fun vs H Q E => G.tabs H ∧ ∃ ds m, Rps G Top H vs ds ∧ R ds m ∧
  Po m (fun d => ∀ v H', Ex G H H' → Rp G (fun a => H a = none) H' v d → Q v H') (fun x => ∀ dd H', Ex G H H' → XAt G H' dd x → E (G.cv x.cls) dd H')
/-- .. whose answer may be one of the arguments' -/
def CtA (G : Gv) (R : List Dt → Res Dt → Prop) : Sp := fun vs H Q E => G.tabs H ∧ ∃ S ds m, Rps G S H vs ds ∧ R ds m ∧
  Po m (fun d => ∀ v H', Ex G H H' → Rp G (fun a => S a ∨ H a = none) H' v d → Q v H') (fun x => ∀ dd H', Ex G H H' → XAt G H' dd x → E (G.cv x.cls) dd H')
def CtT (T : Bool) (G : Gv) (R : List Dt → Res Dt → Prop) : Sp := if T = true then CtA G R else Ct G R
/-- the promise of a typed function -/
def Rt {ρ γ : Type} [Enc γ] (t : ρ → List Dt) (f : ρ → Res γ) : List Dt → Res Dt → Prop := fun ds m => ∃ r, ds = t r ∧ m = (f r).map enc
structure Fc (G : Gv) (P : Program) (w : World) (K : PySem.W.Frag) (mg : Str → Option Value) (base : Heap) (T : Bool) (x : Str) (R : List Dt → Res Dt → Prop) (dvs : List V) (j : Nat) : Prop where
  ex : ∃ f fd ps ds, FnOk P w K mg base (L2.CX P w) j f fd ps (CtT T G R) ∧ mg x = some (.ref f) ∧ PySem.W.keepIn K (.ref f) = true ∧ Binds K fd ps ds ∧ Vals dvs ds
abbrev Fx (G : Gv) (X : Cx) (T : Bool) (x : Str) (R : List Dt → Res Dt → Prop) (dvs : List V) (j : Nat) : Prop := Fc G X.prog X.w X.K X.mg X.base T x R dvs j
section
variable {G : Gv} {X : Cx} {W : WX} {Γ : List Sl} {N : List Str} {sc : Scope} {k j : Nat} {R Ra Rb Rc : Rg} {pos p : Pos} {a b c e o : Expr} {es : List Expr} {α β γ δ ρ : Type} [Enc α] [Enc β] [Enc γ] [Enc δ] {x : Str}
theorem tv_call {t : ρ → List Dt} {f : ρ → Res γ} {ms : Res ρ} (C : Dx G X W N sc k) (F : Fx G X false x (Rt t f) [] j) (hj : j ≤ k) (hg : glB sc x = true) (ha : EAt G X W Γ Ra (e :: es) ms t)
    (hdb : (x == ("__debug__" : Str)) = false := by decide) (he : starEach (e :: es) X.env = (false, eval e X.env) :: starEach es X.env := by rfl) (hpl : (backTo pos (starEach es X.env)).any (·.1) = false := by rfl) : TV G X W Γ .nw (.Call (.Name x p) (e :: es) [] pos) (ms.bind f) := by
  obtain ⟨fa, fd, ps, ds, hf, hm, hk, hb, hv⟩ := F.ex
  intro H0 loc σ H Q A h pins s I
  refine (pe_callSD hf (C.room.mono hj) (gl_of C hg) hm hk hb hv (fun σ => passAt C.tk σ) (paW X (e :: es)) hdb he hpl).run pins s σ H Q I (ha H0 loc σ H _ A ((Po.map h).bind.imp (fun r z vs H1 e1 r1 => ?_) fun _ z => z))
  refine ⟨(A.on e1).tabs, t r, (f r).map enc, ?_, ⟨r, rfl, rfl⟩, Po.mapI ((Po.on e1 z fun _ q => q).imp (fun d q v H' e2 r2 => q v H' (e1.trans e2) (r2.sub fun a s _ => e1.f a s)) fun _ q => q)⟩
  cases hv
  rw [List.append_nil]; exact r1.top
theorem tv_callA {t : ρ → List Dt} {f : ρ → Res γ} {ms : Res ρ} (C : Dx G X W N sc k) (F : Fx G X true x (Rt t f) [] j) (hj : j ≤ k) (hg : glB sc x = true) (ha : EAt G X W Γ .av (e :: es) ms t)
    (hdb : (x == ("__debug__" : Str)) = false := by decide) (he : starEach (e :: es) X.env = (false, eval e X.env) :: starEach es X.env := by rfl) (hpl : (backTo pos (starEach es X.env)).any (·.1) = false := by rfl) : TV G X W Γ .av (.Call (.Name x p) (e :: es) [] pos) (ms.bind f) := by
  obtain ⟨fa, fd, ps, ds, hf, hm, hk, hb, hv⟩ := F.ex
  intro H0 loc σ H Q A h pins s I
  refine (pe_callSD hf (C.room.mono hj) (gl_of C hg) hm hk hb hv (fun σ => passAt C.tk σ) (paW X (e :: es)) hdb he hpl).run pins s σ H Q I (ha H0 loc σ H _ A ((Po.map h).bind.imp (fun r z vs H1 e1 r1 => ?_) fun _ z => z))
  refine ⟨(A.on e1).tabs, Av Γ H0 loc, t r, (f r).map enc, ?_, ⟨r, rfl, rfl⟩, Po.mapI ((Po.on e1 z fun _ q => q).imp (fun d q v H' e2 r2 => q v H' (e1.trans e2) (r2.sub fun a s _ => s.elim id fun h => (A.on e1).av h)) fun _ q => q)⟩
  cases hv
  rw [List.append_nil]; exact r1
end

/-! ### statements -/
inductive Fl (S ρ : Type) where
  | nx (s : S) | rt (r : ρ) | bk (s : S) | ct (s : S)
def AtX (G : Gv) (GX : Option (List Sl)) (H0 : Bs) (loc : Nat → Addr) (σ : L2.St) (H : Hp) : Prop := match GX with
  | none => Ex G H0.h H ∧ G.tabs H
  | some Γ => At G Γ H0 loc σ H
def SubX (Γ : List Sl) (GX : Option (List Sl)) : Prop := match GX with
  | none => True
  | some Γ' => Sub Γ Γ'
theorem At.toX {G : Gv} {Γ : List Sl} {GX : Option (List Sl)} {H0 : Bs} {H : Hp} {loc : Nat → Addr} {σ : L2.St} (h : SubX Γ GX) (A : At G Γ H0 loc σ H) : AtX G GX H0 loc σ H := by
  cases GX with
  | none => exact ⟨A.ex, A.tabs⟩
  | some Γ' => exact A.sub h
abbrev XO (G : Gv) (W : WX) (GX : Option (List Sl)) (H0 : Bs) (x : Exn) : Prop := ∀ dd loc σ H, AtX G GX H0 loc σ H → XAt G H dd x → W (G.cv x.cls) dd σ H
def FlP (G : Gv) (T : Bool) {S ρ : Type} [Enc ρ] (Gs : S → List Sl) (H0 : Bs) (D : Ends) : Fl S ρ → Prop
  | .nx s => ∀ loc σ H, At G (Gs s) H0 loc σ H → D.nx σ H
  | .ct s => ∀ loc σ H, At G (Gs s) H0 loc σ H → D.ct σ H
  | .bk s => ∀ loc σ H, At G (Gs s) H0 loc σ H → D.bk σ H
  | .rt r => ∀ v H, Ex G H0.h H → G.tabs H → Rp G (fun a => (T = true ∧ H0.rs a) ∨ H0.h a = none) H v (enc r) → D.rt v H
def HL (G : Gv) (X : Cx) (W : WX) (GX : Option (List Sl)) (T : Bool) (Γ : List Sl) (sts : List Stmt) {S ρ : Type} [Enc ρ] (Gs : S → List Sl) (m : Res (Fl S ρ)) : Prop :=
  ∀ (H0 : Bs) (loc : Nat → Addr) (σ : L2.St) (H : Hp) (D : Ends), At G Γ H0 loc σ H → Po m (FlP G T Gs H0 D) (XO G W GX H0) → WSs X sts D σ H
/-- of one statement -/
def HS (G : Gv) (X : Cx) (W : WX) (GX : Option (List Sl)) (T : Bool) (Γ : List Sl) (st : Stmt) {S ρ : Type} [Enc ρ] (Gs : S → List Sl) (m : Res (Fl S ρ)) : Prop :=
  ∀ (H0 : Bs) (loc : Nat → Addr) (σ : L2.St) (H : Hp) (D : Ends), At G Γ H0 loc σ H → Po m (FlP G T Gs H0 D) (XO G W GX H0) → WS X st D σ H
/-- go on behind a statement -/
def Fl.go {S T ρ : Type} (f : Fl S ρ) (M : S → Res (Fl T ρ)) (up : S → T) : Res (Fl T ρ) := match f with
  | .nx s => M s
  | .rt r => .ok (.rt r)
  | .bk s => .ok (.bk (up s))
  | .ct s => .ok (.ct (up s))
section
variable {G : Gv} {X : Cx} {W : WX} {GX : Option (List Sl)} {T : Bool} {Γ : List Sl} {N : List Str} {sc : Scope} {k j i : Nat} {R Ra Rb Rc : Rg} {pos p pos' : Pos} {a b c e o : Expr} {es : List Expr} {α β γ δ ρ S S1 : Type} [Enc α] [Enc β] [Enc γ] [Enc δ] [Enc ρ] {x : Str} {st : Stmt} {rest sts : List Stmt} {Gs : S → List Sl}
theorem Xw.of (A : At G Γ H0 loc σ H) (h : SubX Γ GX) {x : Exn} (q : XO G W GX H0 x) : Xw G W σ H x := fun dd H' e z => q dd loc σ H' ((A.on e).toX h) z
theorem hl_nil {s : S} (h : Gs s = Γ) : HL G X W GX T Γ [] Gs (.ok (.nx s) : Res (Fl S ρ)) := fun H0 loc σ H D A q pins t I => pss_nil.run pins t σ H D I (q loc σ H (by rw [h]; exact A))
theorem hl_sub {Γ' : List Sl} {m : Res (Fl S ρ)} (h : Sub Γ Γ') (q : HL G X W GX T Γ' sts Gs m) : HL G X W GX T Γ sts Gs m := fun H0 loc σ H D A z => q H0 loc σ H D (A.sub h) z
/-- the end of a block: slots forgotten -/
theorem hl_end {s : S} (h : Sub Γ (Gs s)) : HL G X W GX T Γ [] Gs (.ok (.nx s) : Res (Fl S ρ)) := hl_sub h (hl_nil rfl)
theorem hl_ret {m : Res ρ} (hx : SubX Γ GX) (he : TV G X W Γ .fr e m) : HL G X W GX T Γ (.Return (some e) pos :: rest) Gs (m.bind fun r => .ok (.rt r)) := fun H0 loc σ H D A q pins t I =>
  (pss_cons (ps_ret (peW X e)) (pss_never (sts := rest))).run pins t σ H D I (he H0 loc σ H _ A (Po.mapI (q.bind.imp (fun r z v H' e1 r1 => z v H' (A.ex.trans e1) (A.on e1).tabs (r1.sub fun a s _ => .inr s)) fun x z => Xw.of A hx z)))
/-- .. a value that may be one of the arguments' -/
theorem hl_retA {m : Res ρ} (hx : SubX Γ GX) (he : TV G X W Γ .av e m) : HL G X W GX true Γ (.Return (some e) pos :: rest) Gs (m.bind fun r => .ok (.rt r)) := fun H0 loc σ H D A q pins t I =>
  (pss_cons (ps_ret (peW X e)) (pss_never (sts := rest))).run pins t σ H D I (he H0 loc σ H _ A (Po.mapI (q.bind.imp (fun r z v H1 e1 r1 => z v H1 (A.ex.trans e1) (A.on e1).tabs (r1.sub fun a s _ => s.2.elim (fun h => .inl ⟨rfl, h⟩) .inr)) fun x z => Xw.of A hx z)))
theorem hl_retN {m : Res Dt} (hx : SubX Γ GX) : HL G X W GX T Γ (.Return none pos :: rest) Gs (.ok (.rt Dt.non) : Res (Fl S Dt)) := fun H0 loc σ H D A q pins t I =>
  (pss_cons ps_retN (pss_never (sts := rest))).run pins t σ H D I (q .non H A.ex A.tabs .non)
theorem hl_break {s : S} (h : Sub Γ (Gs s)) : HL G X W GX T Γ (.Break pos :: rest) Gs (.ok (.bk s) : Res (Fl S ρ)) := fun H0 loc σ H D A q pins t I =>
  (pss_cons ps_break (pss_never (sts := rest))).run pins t σ H D I (q loc σ H (A.sub h))
theorem hl_cont {s : S} (h : Sub Γ (Gs s)) : HL G X W GX T Γ (.Continue pos :: rest) Gs (.ok (.ct s) : Res (Fl S ρ)) := fun H0 loc σ H D A q pins t I =>
  (pss_cons ps_continue (pss_never (sts := rest))).run pins t σ H D I (q loc σ H (A.sub h))
theorem hl_pass {m : Res (Fl S ρ)} (h : HL G X W GX T Γ rest Gs m) : HL G X W GX T Γ (.Pass pos :: rest) Gs m := fun H0 loc σ H D A q pins t I =>
  (pss_cons ps_pass (pssW X rest)).run pins t σ H D I (h H0 loc σ H D A q)
/-- x = e -/
theorem hl_set {m : Res α} {M : α → Res (Fl S ρ)} {Γ' : α → List Sl} (C : Dd G X W N sc k) (hx : SubX Γ GX) (hN : N[i]? = some x) (hl : locB sc x = true) (he : TV G X W Γ .av e m) (hΓ : ∀ a, Γ.set i (.val (enc a)) = Γ' a) (hr : ∀ a, HL G X W GX T (Γ' a) rest Gs (M a))
    (hs : swapsWith e (some (.Name x pos')) pos.line X.env = pure false := by rfl) : HL G X W GX T Γ (.Assign [.Name x pos'] e pos :: rest) Gs (m.bind M) := fun H0 loc σ H D A q pins t I =>
  (pss_cons (ps_set (i := i) (by rw [C.n]; exact C.nd) (by rw [C.n]; exact hN) (by rw [C.sc]; exact loc_of hl) (peW X e) hs (.inl (C.fn x))) (pssW X rest)).run pins t σ H D I (he H0 loc σ H _ A (Po.mapI (q.bind.imp (fun a z v H' e1 r1 => by
    have B : At G (Γ.set i (.val (enc a))) H0 loc (σ.set i (some v)) H' := (A.on e1).put (.inr ⟨_, rfl, r1⟩)
    rw [hΓ] at B
    exact hr a H0 loc _ H' D B z) fun x z => Xw.of A hx z)))
/-- x = e, a new container that becomes x's own -/
class Owns (α : Type) [Enc α] where
  oc : α → Oc
  own : ∀ (G : Gv) (H H1 : Hp) (v : V) (a : α), Ex G H H1 → Rp G (fun q => H q = none) H1 v (enc a) → ∃ p, v = .ref p ∧ H p = none ∧ ∀ S : Addr → Prop, OcOk G S H1 p (oc a)
instance [Flat α] : Owns (List α) := ⟨fun xs => .l (xs.map enc), fun G H H1 v a _ r => by
  obtain ⟨p, vs, ev, s, hp, rs⟩ := rp_lst (ds := a.map enc) r
  exact ⟨p, ev, s, fun S => ⟨vs, hp, rps_flat rs⟩⟩⟩
theorem rpk_flat {κ : Type} [EKey κ] [Flat α] {G : Gv} {S S' : Addr → Prop} {H : Hp} : ∀ {xs : List (κ × α)} {vs : List (Key × V)}, RpK G S H vs (xs.map fun p => (EKey.key p.1, enc p.2)) → RpK G S' H vs (xs.map fun p => (EKey.key p.1, enc p.2))
  | [], _, .nil => .nil
  | x :: xs, _, .cons r t => .cons (Flat.any G S S' H _ x.2 r) (rpk_flat t)
instance {κ : Type} [EKey κ] [Flat α] : Owns (Dct κ α) := ⟨fun d => .d (d.kvs.map fun p => (EKey.key p.1, enc p.2)), fun G H H1 v a e r => by
  obtain ⟨p, vs, ev, s, hp, rs⟩ := rp_dct (ds := a.kvs.map fun p => (EKey.key p.1, enc p.2)) r
  refine ⟨p, ev, s, fun S => ⟨vs, ?_, rpk_flat rs⟩⟩
  rcases hp with hp | ⟨o, hp⟩
  · exact hp
  · rw [e.z p o _ hp] at s; cases s⟩
theorem hl_own [Owns α] {m : Res α} {M : α → Res (Fl S ρ)} {Γ' : α → List Sl} (C : Dd G X W N sc k) (hx : SubX Γ GX) (hN : N[i]? = some x) (hl : locB sc x = true) (he : TV G X W Γ .nw e m) (hi0 : 0 < i) (hi : i < Γ.length) (hΓ : ∀ a, Γ.set i (.own (Owns.oc a)) = Γ' a) (hr : ∀ a, HL G X W GX T (Γ' a) rest Gs (M a))
    (hs : swapsWith e (some (.Name x pos')) pos.line X.env = pure false := by rfl) : HL G X W GX T Γ (.Assign [.Name x pos'] e pos :: rest) Gs (m.bind M) := fun H0 loc σ H D A q pins t I =>
  (pss_cons (ps_set (i := i) (by rw [C.n]; exact C.nd) (by rw [C.n]; exact hN) (by rw [C.sc]; exact loc_of hl) (peW X e) hs (.inl (C.fn x))) (pssW X rest)).run pins t σ H D I (he H0 loc σ H _ A (Po.mapI (q.bind.imp (fun a z v H' e1 r1 => by
    obtain ⟨p, ev, hp, ho⟩ := Owns.own G H H' v a e1 r1
    subst ev
    have B := A.putO (i := i) (c := Owns.oc a) e1 hp hi0 hi fun S _ => ho S
    rw [hΓ] at B
    exact hr a H0 _ _ H' D B z) fun x z => Xw.of A hx z)))
/-- x = [] -/
theorem hl_nilL {Γ' : List Sl} {M : Res (Fl S ρ)} (C : Dd G X W N sc k) (hN : N[i]? = some x) (hl : locB sc x = true) (hi0 : 0 < i) (hi : i < Γ.length) (hΓ : Γ.set i (.own (.l [])) = Γ') (hr : HL G X W GX T Γ' rest Gs M)
    (hs : swapsWith (.List [] p) (some (.Name x pos')) pos.line X.env = pure false := by rfl) : HL G X W GX T Γ (.Assign [.Name x pos'] (.List [] p) pos :: rest) Gs M := fun H0 loc σ H D A q pins t I =>
  (pss_cons (ps_set (i := i) (by rw [C.n]; exact C.nd) (by rw [C.n]; exact hN) (by rw [C.sc]; exact loc_of hl) (pe_lst pa_nil) hs (.inl (C.fn x))) (pssW X rest)).run pins t σ H D I ⟨Nat.zero_le _, fun v hv => by
    have B := A.putO (i := i) (c := .l []) (.new hv) hv hi0 hi fun S _ => ⟨[], upd_same, .nil⟩
    rw [hΓ] at B
    exact hr H0 _ _ _ D B q⟩
theorem hl_nilD {Γ' : List Sl} {M : Res (Fl S ρ)} (C : Dd G X W N sc k) (hN : N[i]? = some x) (hl : locB sc x = true) (hi0 : 0 < i) (hi : i < Γ.length) (hΓ : Γ.set i (.own (.d [])) = Γ') (hr : HL G X W GX T Γ' rest Gs M)
    (hs : swapsWith (.Dict [] [] p) (some (.Name x pos')) pos.line X.env = pure false := by rfl) : HL G X W GX T Γ (.Assign [.Name x pos'] (.Dict [] [] p) pos :: rest) Gs M := fun H0 loc σ H D A q pins t I =>
  (pss_cons (ps_set (i := i) (by rw [C.n]; exact C.nd) (by rw [C.n]; exact hN) (by rw [C.sc]; exact loc_of hl) pe_dnewK hs (.inl (C.fn x))) (pssW X rest)).run pins t σ H D I fun v hv => by
    have B := A.putO (i := i) (c := .d []) (.new hv) hv hi0 hi fun S _ => ⟨[], upd_same, .nil⟩
    rw [hΓ] at B
    exact hr H0 _ _ _ D B q
/-- an own container of flat things is given away -/
theorem tv_ownF [Flat β] {xs : List β} (C : Dx G X W N sc k) (hN : N[i]? = some x) (hΓ : Γ[i]? = some (.own (.l (xs.map enc)))) (hv : visB sc x = true) (hd : (x == ("__debug__" : Str)) = false) (hcd : (x == ("__classdict__" : Str)) = false) : TV G X W Γ .fr (.Name x pos) (.ok xs) := by
  intro H0 loc σ H Q A h pins s I
  obtain ⟨e, vs, hl, rs⟩ := A.slot i _ hΓ
  exact (pe_var (by rw [C.n]; exact hN) (by rw [C.sc]; exact vis_of hv) hd hcd).run pins s σ H Q I ⟨_, e, h _ H (.refl H) (.lst (A.new i ⟨_, hΓ⟩) hl (rps_flat rs))⟩

/-! ### if -/
theorem FlP.imp {D D' : Ends} {H0 : Bs} {f : Fl S ρ} (h : FlP G T Gs H0 D f) (hn : ∀ σ H, D.nx σ H → D'.nx σ H) (hb : ∀ σ H, D.bk σ H → D'.bk σ H) (hc : ∀ σ H, D.ct σ H → D'.ct σ H) (hr : ∀ v H, D.rt v H → D'.rt v H) : FlP G T Gs H0 D' f := by
  cases f with
  | nx s => exact fun loc σ H A => hn σ H (h loc σ H A)
  | bk s => exact fun loc σ H A => hb σ H (h loc σ H A)
  | ct s => exact fun loc σ H A => hc σ H (h loc σ H A)
  | rt r => exact fun v H e t q => hr v H (h v H e t q)
/-- the last statement -/
theorem hl_one {m : Res (Fl S ρ)} (h : HS G X W GX T Γ st Gs m) : HL G X W GX T Γ [st] Gs m := fun H0 loc σ H D A q pins t I => (pss_one (psW X st)).run pins t σ H D I (h H0 loc σ H D A q)
/-- a statement, then the rest -/
theorem hl_cons {G1 : S1 → List Sl} {m : Res (Fl S1 ρ)} {M : S1 → Res (Fl S ρ)} {up : S1 → S} (h : HS G X W GX T Γ st G1 m) (hr : ∀ s, HL G X W GX T (G1 s) rest Gs (M s)) (hu : ∀ s, Sub (G1 s) (Gs (up s))) : HL G X W GX T Γ (st :: rest) Gs (m.bind fun f => f.go M up) := fun H0 loc σ H D A q pins t I =>
  (pss_cons (psW X st) (pssW X rest)).run pins t σ H D I (h H0 loc σ H { D with nx := WSs X rest D } A (q.bind.imp (fun f z => by
    cases f with
    | nx s => exact fun loc' σ' H' A' => hr s H0 loc' σ' H' D A' z
    | rt r => exact z
    | bk s => exact fun loc' σ' H' A' => z loc' σ' H' (A'.sub (hu s))
    | ct s => exact fun loc' σ' H' A' => z loc' σ' H' (A'.sub (hu s))) fun _ z => z))
theorem hs_if {t : Res Bool} {m n : Res (Fl S ρ)} {sa sb : List Stmt} (hx : SubX Γ GX) (hc : TB G X W Γ c t) (ha : HL G X W GX T Γ sa Gs m) (hb : HL G X W GX T Γ sb Gs n) : HS G X W GX T Γ (.If c sa sb pos) Gs (t.bind fun z => if z = true then m else n) := fun H0 loc σ H D A q pins s I =>
  (ps_if (ptW X c) (pssW X sa) (pssW X sb)).run pins s σ H D I (hc H0 loc σ H _ A (q.bind.imp (fun z y H1 e1 => by
    cases z with
    | true => rw [if_pos rfl] at y ⊢; exact ha H0 loc σ H1 D (A.on e1) y
    | false => rw [if_neg Bool.false_ne_true] at y ⊢; exact hb H0 loc σ H1 D (A.on e1) y) fun x z => Xw.of A hx z))
/-- if c: .. that does not fall through, then the rest -/
theorem hl_guard {t : Res Bool} {m : Res (Fl Empty ρ)} {n : Res (Fl S ρ)} {sa : List Stmt} {Ge : Empty → List Sl} (hx : SubX Γ GX) (hc : TB G X W Γ c t) (ha : HL G X W GX T Γ sa Ge m) (hb : HL G X W GX T Γ rest Gs n) :
    HL G X W GX T Γ (.If c sa [] pos :: rest) Gs (t.bind fun z => if z = true then m.bind fun f => f.go (T := S) (fun s => nomatch s) (fun s => nomatch s) else n) := fun H0 loc σ H D A q pins s I =>
  (pss_cons (ps_if (ptW X c) (pssW X sa) pss_nil) (pssW X rest)).run pins s σ H D I (hc H0 loc σ H _ A (q.bind.imp (fun z y H1 e1 => by
    cases z with
    | true =>
      rw [if_pos rfl] at y ⊢
      refine ha H0 loc σ H1 _ (A.on e1) (y.bind.imp (fun f z => ?_) fun _ z => z)
      cases f with
      | rt r => exact z
      | nx s => exact nomatch s
      | bk s => exact nomatch s
      | ct s => exact nomatch s
    | false => rw [if_neg Bool.false_ne_true] at y ⊢; exact hb H0 loc σ H1 D (A.on e1) y) fun x z => Xw.of A hx z))
/-- .. that goes on with the loop's next turn, or leaves the loop, or hands back -/
theorem hl_guardS {t : Res Bool} {m n : Res (Fl S ρ)} {sa : List Stmt} (hx : SubX Γ GX) (hc : TB G X W Γ c t) (ha : HL G X W GX T Γ sa Gs m) (hno : ∀ s, m ≠ .ok (.nx s)) (hb : HL G X W GX T Γ rest Gs n) :
    HL G X W GX T Γ (.If c sa [] pos :: rest) Gs (t.bind fun z => if z = true then m else n) := fun H0 loc σ H D A q pins s I =>
  (pss_cons (ps_if (ptW X c) (pssW X sa) pss_nil) (pssW X rest)).run pins s σ H D I (hc H0 loc σ H _ A (q.bind.imp (fun z y H1 e1 => by
    cases z with
    | true =>
      rw [if_pos rfl] at y ⊢
      refine ha H0 loc σ H1 _ (A.on e1) ?_
      cases em : m with
      | ok f =>
        rw [em] at y
        cases f with
        | rt r => exact y
        | nx s => exact absurd em (hno s)
        | bk s => exact y
        | ct s => exact y
      | exc x => rw [em] at y; exact y
      | err => rw [em] at y; exact y
    | false => rw [if_neg Bool.false_ne_true] at y ⊢; exact hb H0 loc σ H1 D (A.on e1) y) fun x z => Xw.of A hx z))
end
end CS
namespace CS
open Enc (enc)
open PySem PySem.Spec PyProof.Rows L2

section
variable {G : Gv} {Γ : List Sl} {H0 : Bs} {H H' : Hp} {loc : Nat → Addr} {σ : L2.St} {xt xt0 : List (V × Dt)} {h0 : Hp} {rs : Addr → Prop} {me : Option Addr}
theorem At.less (A : At G Γ ⟨h0, xt ++ xt0, rs, me⟩ loc σ H) : At G Γ ⟨h0, xt0, rs, me⟩ loc σ H := ⟨A.ex, fun p hp => A.xts p (List.mem_append_right _ hp), A.tabs, A.len, A.inj, A.new, A.me, A.slot⟩
theorem At.more (A : At G Γ H0 loc σ H) (h : ∀ p ∈ xt, Rp G (Av Γ H0 loc) H p.1 p.2) : At G Γ ⟨H0.h, xt ++ H0.xt, H0.rs, H0.me⟩ loc σ H := ⟨A.ex, fun p hp => (List.mem_append.mp hp).elim (h p) (A.xts p), A.tabs, A.len, A.inj, A.new, A.me, A.slot⟩
theorem Sub.av {Γ Γ' : List Sl} (h : Sub Γ Γ') {a : Addr} (q : Av Γ H0 loc a) : Av Γ' H0 loc a := ⟨fun j o => q.1 j (h.ow o), q.2⟩
end

/-! ### what a loop walks -/
def Src (G : Gv) {α : Type} [Enc α] (J : It) (xt : List (V × Dt)) (xs : List α) : Prop :=
  ∀ (S : Addr → Prop) (H : Hp), (∀ p ∈ xt, Rp G S H p.1 p.2) → ∀ i : Nat, (i = xs.length → J.stop i H) ∧ (i < xs.length → J.go i H ∧
    ∀ x H', J.yld i H x H' → ∃ a, xs[i]? = some a ∧ Ex G H H' ∧ Rp G S H' x (enc a))
def ES (G : Gv) (X : Cx) (W : WX) (Γ : List Sl) (tg e : Expr) {α : Type} [Enc α] (m : Res (List α)) : Prop := ∃ wi, PI X tg e wi ∧
  ∀ (H0 : Bs) (loc : Nat → Addr) (σ : L2.St) (H : Hp) (R : It → Hp → Prop), At G Γ H0 loc σ H →
    Po m (fun xs => ∀ J xt H', Ex G H H' → Src G J xt xs → (∀ p ∈ xt, Rp G (Av Γ H0 loc) H' p.1 p.2) → R J H') (Xw G W σ H) → wi σ H R
section
variable {G : Gv} {X : Cx} {W : WX} {Γ : List Sl} {N : List Str} {sc : Scope} {k : Nat} {R Ra Rb Rc : Rg} {pos p p1 p2 tpos : Pos} {a b c e o tg : Expr} {es : List Expr} {α β γ δ ρ : Type} [Enc α] [Enc β] [Enc γ] [Enc δ] {elts : List Expr} {kk : Nat}
theorem get_map {A B : Type} {f : A → B} {xs : List A} {i : Nat} {y : B} (h : (xs.map f)[i]? = some y) : ∃ x, xs[i]? = some x ∧ y = f x := by
  rw [List.getElem?_map] at h
  cases e : xs[i]? with
  | none => rw [e] at h; cases h
  | some x => rw [e] at h; exact ⟨x, rfl, (Option.some.inj h).symm⟩
theorem src_list {K : PySem.W.Frag} {q : Addr} {xs : List α} : Src G (Itl K q) [(V.ref q, enc xs)] xs := by
  intro S H h i
  obtain ⟨q', vs, ev, s, hq, rs⟩ := rp_lst (ds := xs.map enc) (h _ List.mem_cons_self)
  cases ev
  have hl : vs.length = xs.length := by rw [rs.len, List.length_map]
  refine ⟨fun hi => ⟨vs, SqL.of hq, by omega⟩, fun hi => ⟨⟨vs, vs[i], SqL.of hq, by simp [hl, hi]⟩, fun x H' ⟨e1, e2⟩ => ?_⟩⟩
  subst e1
  have hx := e2 vs (SqL.of hq)
  obtain ⟨v, hv, rv⟩ := rs.get (i := i) (d := enc xs[i]) (by simp [hi])
  rw [hx] at hv
  cases hv
  exact ⟨xs[i], by simp [hi], .refl _, rv⟩
theorem src_scr {q : Addr} {s : Scr} : Src G (Itl G.K q) [(V.ref q, enc s)] s.ns := by
  intro S H h i
  obtain ⟨q', ev, hq⟩ := rp_scr (ns := s.ns) (h _ List.mem_cons_self)
  cases ev
  refine ⟨fun hi => ⟨_, hq.seq, by rw [List.length_map, hi]; exact Nat.le_refl _⟩, fun hi => ⟨⟨_, .int s.ns[i], hq.seq, by simp [hi]⟩, fun x H' ⟨e1, e2⟩ => ?_⟩⟩
  subst e1
  obtain ⟨n, hn, ex⟩ := get_map (e2 _ hq.seq)
  subst ex
  exact ⟨n, hn, .refl _, .int n⟩
theorem es_list {m : Res (List α)} (ha : TV G X W Γ .av e m) : ES G X W Γ tg e m := ⟨_, pi_list (peW X e), fun H0 loc σ H Rk A h =>
  ha H0 loc σ H _ A (Po.mapI (h.imp (fun xs z v H1 e1 r1 => by
    obtain ⟨q, vs, ev, s, hq, rs⟩ := rp_lst (ds := xs.map enc) r1
    exact ⟨q, ev, ⟨vs, SqL.of hq⟩, z _ [(.ref q, enc xs)] H1 e1 src_list (fun p hp => by
      rw [List.mem_singleton.mp hp]; rw [← ev]; exact r1)⟩) fun _ z => z))⟩
theorem es_scr {m : Res Scr} (C : Dx G X W N sc k) (ha : TV G X W Γ .av e m) : ES G X W Γ tg e (m.bind fun s => .ok s.ns) := ⟨_, pi_list (peW X e), fun H0 loc σ H Rk A h =>
  ha H0 loc σ H _ A (Po.mapI (h.bind.imp (fun xs z v H1 e1 r1 => by
    obtain ⟨q, ev, hq⟩ := rp_scr (ns := xs.ns) r1
    rw [C.K]
    exact ⟨q, ev, ⟨_, hq.seq⟩, z _ [(.ref q, enc xs)] H1 e1 src_scr (fun p hp => by
      rw [List.mem_singleton.mp hp]; rw [← ev]; exact r1)⟩) fun _ z => z))⟩
/-- the signs of a text -/
def sgn (x : Str) : List Str := x.cps.toList.map fun c => ⟨#[c]⟩
theorem src_str {x : Str} : Src G (Its x) [] (sgn x) := by
  intro S H _ i
  have hl : (sgn x).length = x.cps.size := by simp [sgn]
  refine ⟨fun hi => by show x.cps.size ≤ i; omega, fun hi => ⟨by show i < x.cps.size; omega, fun v H' ⟨e1, c, hc, e2⟩ => ?_⟩⟩
  subst e1; subst e2
  refine ⟨⟨#[c]⟩, ?_, .refl _, .str _⟩
  unfold sgn
  rw [List.getElem?_map, Array.getElem?_toList, hc]; rfl
theorem es_str {m : Res Str} (ha : TV G X W Γ Ra e m) : ES G X W Γ tg e (m.bind fun x => .ok (sgn x)) := ⟨_, pi_str (peW X e), fun H0 loc σ H Rk A h =>
  ha H0 loc σ H _ A (Po.mapI (h.bind.imp (fun x z v H1 e1 r1 => ⟨x, rp_str r1, z _ [] H1 e1 src_str fun p hp => absurd hp (by simp)⟩) fun _ z => z))⟩
/-- lo, lo + 1, .. -/
def rng (lo hi : Int) : List Int := (List.range (hi - lo).toNat).map fun i => lo + (i : Nat)
theorem rng_len (lo hi : Int) : (rng lo hi).length = (hi - lo).toNat := by simp [rng]
theorem src_rng {lo hi : Int} : Src G (Itr lo (hi - lo).toNat) [] (rng lo hi) := by
  intro S H _ i
  rw [rng_len]
  refine ⟨fun hi => Nat.le_of_eq hi.symm, fun hlt => ⟨hlt, fun v H' ⟨e1, e2⟩ => ?_⟩⟩
  subst e1; subst e2
  exact ⟨lo + (i : Nat), by unfold rng; rw [List.getElem?_map, List.getElem?_range hlt]; rfl, .refl _, .int _⟩
def rngR (lo hi : Int) : Res (List Int) := okIf (-4611686018427387904 ≤ lo ∧ lo < 4611686018427387904 ∧ -4611686018427387904 ≤ hi ∧ hi < 4611686018427387904) (rng lo hi)
theorem es_rng1 {m : Res Int} (C : Dx G X W N sc k) (ha : TV G X W Γ Ra a m) (hg : glB sc "range" = true) (hm : X.mg "range" = none) (hst : starEach [a] X.env = (false, eval a X.env) :: starEach [] X.env := by rfl) : ES G X W Γ tg (.Call (.Name "range" p) [a] [] pos) (m.bind fun x => rngR 0 x) :=
  ⟨_, pi_range1 (gl_of C hg) hm (pa_cons (peW X a) pa_nil hst) hst, fun H0 loc σ H Rk A h => ha H0 loc σ H _ A (Po.mapI (h.bind.imp (fun x z v H1 e1 r1 => by
    obtain ⟨⟨c1, c2, c3, c4⟩, z⟩ := z.okIf
    have q := z (Itr 0 (x - 0).toNat) [] H1 e1 src_rng fun p hp => absurd hp (by simp)
    rw [Int.sub_zero] at q
    exact ⟨x, by rw [rp_int r1], by omega, by omega, q⟩) fun _ z => z))⟩
theorem es_rng2 {m n : Res Int} (C : Dx G X W N sc k) (ha : TV G X W Γ Ra a m) (hb : TV G X W Γ Rb b n) (hg : glB sc "range" = true) (hm : X.mg "range" = none) (hst : starEach [a, b] X.env = (false, eval a X.env) :: starEach [b] X.env := by rfl) (hst2 : starEach [b] X.env = (false, eval b X.env) :: starEach [] X.env := by rfl) :
    ES G X W Γ tg (.Call (.Name "range" p) [a, b] [] pos) (m.bind fun x => n.bind fun y => rngR x y) :=
  ⟨_, pi_range2 (gl_of C hg) hm (pa_cons (peW X a) (pa_cons (peW X b) pa_nil hst2) hst) (by rw [hst, hst2]; rfl) hst2, fun H0 loc σ H Rk A h =>
    we2t ha hb A (p := fun xs H1 => ∀ J xt H', Ex G H1 H' → Src G J xt xs → (∀ p ∈ xt, Rp G (Av Γ H0 loc) H' p.1 p.2) → Rk J H') (fun r H1 H2 e q J xt H' e' => q J xt H' (e.trans e')) h fun x y v u H' ee A' r1 r2 h' => by
      obtain ⟨⟨c1, c2, c3, c4⟩, z⟩ := h'.okIf
      exact ⟨x, y, by rw [rp_int r1, rp_int r2], ⟨by omega, by omega, by omega, by omega⟩, z _ [] H' (.refl _) src_rng fun p hp => absurd hp (by simp)⟩⟩
/-- enumerate(xs) -/
def enumL (xs : List α) : List (Int × α) := xs.zipIdx.map fun p => ((p.2 : Int), p.1)
theorem src_enum {K : PySem.W.Frag} {q : Addr} {xs : List α} : Src G (Ite K q) [(V.ref q, enc xs)] (enumL xs) := by
  intro S H h i
  obtain ⟨q', vs, ev, s, hq, rs⟩ := rp_lst (ds := xs.map enc) (h _ List.mem_cons_self)
  cases ev
  have hl : vs.length = xs.length := by rw [rs.len, List.length_map]
  have hle : (enumL xs).length = xs.length := by simp [enumL]
  rw [hle]
  refine ⟨fun hi => ⟨vs, SqL.of hq, by omega⟩, fun hi => ⟨⟨vs, vs[i], SqL.of hq, by simp [hl, hi]⟩, fun x H' ⟨T, y, e1, hT, e3, e4⟩ => ?_⟩⟩
  subst e1; subst e3
  have hx := e4 vs (SqL.of hq)
  obtain ⟨v, hv, rv⟩ := rs.get (i := i) (d := enc xs[i]) (by simp [hi])
  rw [hx] at hv
  cases hv
  refine ⟨((i : Int), xs[i]), by simp [enumL, hi], .new hT, ?_⟩
  exact .tup (ds := [enc (i : Int), enc xs[i]]) (.inl (.inl upd_same)) (.cons (.int _) (.cons (rv.ex (.new hT)) .nil))
theorem es_enum {m : Res (List α)} (C : Dx G X W N sc k) (ha : TV G X W Γ .av a m) (hg : glB sc "enumerate" = true) (hm : X.mg "enumerate" = none) (hst : starEach [a] X.env = (false, eval a X.env) :: starEach [] X.env := by rfl) :
    ES G X W Γ (.Tuple elts kk tpos) (.Call (.Name "enumerate" p) [a] [] pos) (m.bind fun xs => .ok (enumL xs)) :=
  ⟨_, pi_enum (gl_of C hg) hm (pa_cons (peW X a) pa_nil hst) hst, fun H0 loc σ H Rk A h => ha H0 loc σ H _ A (Po.mapI (h.bind.imp (fun xs z v H1 e1 r1 => by
    obtain ⟨q, vs, ev, s, hq, rs⟩ := rp_lst (ds := xs.map enc) r1
    exact ⟨q, vs, by rw [ev], SqL.of hq, z _ [(.ref q, enc xs)] H1 e1 src_enum (fun p hp => by
      rw [List.mem_singleton.mp hp]; rw [← ev]; exact r1)⟩) fun _ z => z))⟩
/-- zip of two lists -/
theorem src_zip {K : PySem.W.Frag} {q q2 : Addr} {xs : List α} {ys : List β} : Src G (Itz K q q2) [(V.ref q, enc xs), (V.ref q2, enc ys)] (xs.zip ys) := by
  intro S H h i
  obtain ⟨q', vs, ev, s, hq, rs⟩ := rp_lst (ds := xs.map enc) (h _ List.mem_cons_self)
  cases ev
  obtain ⟨q', ws, ev, s', hq2, rs2⟩ := rp_lst (ds := ys.map enc) (h _ (List.mem_cons_of_mem _ List.mem_cons_self))
  cases ev
  have hl : vs.length = xs.length := by rw [rs.len, List.length_map]
  have hl2 : ws.length = ys.length := by rw [rs2.len, List.length_map]
  rw [List.length_zip]
  refine ⟨fun hi => ⟨vs, ws, SqL.of hq, SqL.of hq2, by omega⟩, fun hi => ?_⟩
  have h1 : i < xs.length := by omega
  have h2 : i < ys.length := by omega
  refine ⟨⟨vs, ws, vs[i], ws[i], SqL.of hq, SqL.of hq2, by simp [hl, h1], by simp [hl2, h2]⟩, fun x H' ⟨T, y, w, e1, hT, e3, e4, e5⟩ => ?_⟩
  subst e1; subst e3
  have hx := e4 vs (SqL.of hq)
  have hy := e5 ws (SqL.of hq2)
  obtain ⟨v, hv, rv⟩ := rs.get (i := i) (d := enc xs[i]) (by simp [h1])
  obtain ⟨v2, hv2, rv2⟩ := rs2.get (i := i) (d := enc ys[i]) (by simp [h2])
  rw [hx] at hv
  cases hv
  rw [hy] at hv2
  cases hv2
  refine ⟨(xs[i], ys[i]), List.getElem?_zip_eq_some.mpr ⟨by simp [h1], by simp [h2]⟩, .new hT, ?_⟩
  exact .tup (ds := [enc xs[i], enc ys[i]]) (.inl (.inl upd_same)) (.cons (rv.ex (.new hT)) (.cons (rv2.ex (.new hT)) .nil))
theorem es_zip {m : Res (List α)} {n : Res (List β)} (C : Dx G X W N sc k) (ha : TV G X W Γ .av a m) (hb : TV G X W Γ .av b n) (hg : glB sc "zip" = true) (hm : X.mg "zip" = none) (hst : starEach [a, b] X.env = (false, eval a X.env) :: starEach [b] X.env := by rfl) (hst2 : starEach [b] X.env = (false, eval b X.env) :: starEach [] X.env := by rfl) (hpl : (backTo pos (starEach [b] X.env)).any (·.1) = false := by rfl) :
    ES G X W Γ (.Tuple elts kk tpos) (.Call (.Name "zip" p) [a, b] [] pos) (m.bind fun x => n.bind fun y => .ok (x.zip y)) :=
  ⟨_, pi_zip (gl_of C hg) hm (pa_cons (peW X a) (pa_cons (peW X b) pa_nil hst2) hst) hst hpl, fun H0 loc σ H Rk A h =>
    we2t ha hb A (p := fun xs H1 => ∀ J xt H', Ex G H1 H' → Src G J xt xs → (∀ p ∈ xt, Rp G (Av Γ H0 loc) H' p.1 p.2) → Rk J H') (fun r H1 H2 e q J xt H' e' => q J xt H' (e.trans e')) h fun x y v u H' ee A' r1 r2 z => by
      obtain ⟨q, vs, ev, s, hq, rs⟩ := rp_lst (ds := x.map enc) r1
      obtain ⟨q2, ws, ev2, s2, hq2, rs2⟩ := rp_lst (ds := y.map enc) r2
      exact ⟨q, q2, vs, ws, by rw [ev, ev2], SqL.of hq, SqL.of hq2, z _ [(.ref q, enc x), (.ref q2, enc y)] H' (.refl _) src_zip (fun p hp => by
        rcases List.mem_cons.mp hp with e | hp
        · rw [e]; rw [← ev]; exact r1
        · rw [List.mem_singleton.mp hp]; rw [← ev2]; exact r2)⟩⟩

/-! ### what is stored to -/
def WG (X : Cx) (tg : Expr) : TG := fun v σ H Q => ∀ (pins : List (Addr × Obj)) (s : Shared) (u : Value), Inv X pins σ H s → RelV v u → wpAny (model X.prog X.w) X.A (assign tg X.env u) (fun _ s' => ∃ σ' H', Inv X pins σ' H' s' ∧ Q σ' H') X.xe s
def WGs (X : Cx) (es : List Expr) : TGs := fun vs σ H Q => ∀ (pins : List (Addr × Obj)) (s : Shared) (us : List Value), Inv X pins σ H s → Vals vs us → wpAny (model X.prog X.w) X.A (assignInOrder ((assignEach es X.env).map (·.2)) us) (fun _ s' => ∃ σ' H', Inv X pins σ' H' s' ∧ Q σ' H') X.xe s
theorem pgW (X : Cx) (tg : Expr) : PG X tg (WG X tg) := ⟨fun pins s σ H v u Q I r h => h pins s u I r⟩
theorem pgsW (X : Cx) (es : List Expr) : PGs X es (WGs X es) := ⟨fun pins s σ H v u Q I r h => h pins s u I r⟩
/-- nothing but the slots is is changed -/
def Same (is : List Nat) (σ σ' : L2.St) : Prop := σ'.length = σ.length ∧ ∀ j, j ∉ is → σ'[j]? = σ[j]?
def ETg (G : Gv) (X : Cx) (is : List Nat) (Γ : List Sl) (tg : Expr) {α : Type} [Enc α] (Γ' : α → List Sl) : Prop := (∀ a j, Ow (Γ' a) j → Ow Γ j) ∧
  ∀ (H0 : Bs) (loc : Nat → Addr) (σ : L2.St) (H : Hp) (v : V) (a : α) (Q : L2.St → Hp → Prop), At G Γ H0 loc σ H → Rp G (Av Γ H0 loc) H v (enc a) → (∀ σ', At G (Γ' a) H0 loc σ' H → Same is σ σ' → Q σ' H) → WG X tg v σ H Q
def ETs (G : Gv) (X : Cx) (is : List Nat) (Γ : List Sl) (es : List Expr) {ρ : Type} (t : ρ → List Dt) (Γ' : ρ → List Sl) : Prop := (∀ a j, Ow (Γ' a) j → Ow Γ j) ∧
  ∀ (H0 : Bs) (loc : Nat → Addr) (σ : L2.St) (H : Hp) (vs : List V) (r : ρ) (Q : L2.St → Hp → Prop), At G Γ H0 loc σ H → Rps G (Av Γ H0 loc) H vs (t r) → (∀ σ', At G (Γ' r) H0 loc σ' H → Same is σ σ' → Q σ' H) → WGs X es vs σ H Q
end
section
variable {G : Gv} {X : Cx} {W : WX} {N : List Str} {sc : Scope} {k : Nat} {pos : Pos} {e : Expr} {es : List Expr} {α β ρ : Type} [Enc α] [Enc β] {kk : Nat} {Γ : List Sl} {is js : List Nat}
theorem tg_name {i : Nat} {x : Str} {Γ' : α → List Sl} (C : Dx G X W N sc k) (hN : N[i]? = some x) (hl : locB sc x = true) (hf : (∀ x, X.fn x = true) ∨ sc.names.lookup x = some .local) (hΓ : ∀ a, Γ.set i (.val (enc a)) = Γ' a) : ETg G X [i] Γ (.Name x pos) Γ' :=
  ⟨fun a j h => by rw [← hΓ] at h; exact (ow_set (fun c (z : Sl.val (enc a) = Sl.own c) => nomatch z) h).1,
    fun H0 loc σ H v a Q A r q pins s u I ru => (pg_name (i := i) (by rw [C.n]; exact C.nd) (by rw [C.n]; exact hN) (by rw [C.sc]; exact loc_of hl) (hf.elim (fun h => .inl (h x)) fun h => .inr (by rw [C.sc]; exact h))).run pins s σ H v u Q I ru (q _ (by
      have B := A.put (i := i) (.inr ⟨_, rfl, r⟩)
      rw [hΓ] at B; exact B) ⟨by rw [List.length_set], fun j hj => List.getElem?_set_ne (fun z => hj (by rw [z]; exact List.mem_singleton.mpr rfl))⟩)⟩
theorem tgs_nil : ETs G X [] Γ [] tnil (fun _ => Γ) := ⟨fun _ _ h => h, fun H0 loc σ H vs r Q A rs q pins s us I ru => pgs_nil.run pins s σ H vs us Q I ru (by cases rs; exact ⟨rfl, q _ A ⟨rfl, fun _ _ => rfl⟩⟩)⟩
theorem tgs_cons {t : ρ → List Dt} {Γ1 : α → List Sl} {Γ' : α → ρ → List Sl} (h1 : ETg G X is Γ e Γ1) (h2 : ∀ a, ETs G X js (Γ1 a) es t (Γ' a))
    (hs : (assignEach (e :: es) X.env).map (·.2) = assign e X.env :: (assignEach es X.env).map (·.2) := by rfl) : ETs G X (is ++ js) Γ (e :: es) (tcons t) (fun (p : α × ρ) => Γ' p.1 p.2) := by
  obtain ⟨m1, hg⟩ := h1
  refine ⟨fun p j h => m1 _ j ((h2 p.1).1 p.2 j h), fun H0 loc σ H vs r Q A rs q pins s us I ru => (pgs_cons (pgW X e) (pgsW X es) hs).run pins s σ H vs us Q I ru ?_⟩
  cases rs with
  | cons r1 rs => exact ⟨_, _, rfl, hg H0 loc σ H _ r.1 _ A r1 fun σ1 A1 s1 => (h2 r.1).2 H0 loc σ1 H _ r.2 Q A1 (rs.sub fun a s _ => ⟨fun j o => s.1 j (m1 _ j o), s.2⟩) fun σ2 A2 s2 => q σ2 A2 ⟨s2.1.trans s1.1, fun j hj => (s2.2 j fun z => hj (List.mem_append_right _ z)).trans (s1.2 j fun z => hj (List.mem_append_left _ z))⟩⟩
theorem tg_tup {t : ρ → List Dt} {Γ' : ρ → List Sl} {Γ2 : α → List Sl} {n : Nat} (C : Dx G X W N sc k) (h : ETs G X is Γ es t Γ') (f : α → ρ) (ht : ∀ a, enc a = Dt.tup (t (f a))) (hΓ : ∀ a, Γ' (f a) = Γ2 a) (hlen : ∀ r, (t r).length = n) (hn : (assignEach es X.env).length = n := by rfl) (hst : (assignEach es X.env).findIdx? (·.1) = none := by rfl) :
    ETg G X is Γ (.Tuple es kk pos) Γ2 := by
  obtain ⟨m1, hu⟩ := h
  refine ⟨fun a j h => m1 (f a) j (by rw [hΓ]; exact h), fun H0 loc σ H v a Q A r q pins s u I ru => (pg_tup C.calm (pgsW X es) hn hst).run pins s σ H v u Q I ru ?_⟩
  rw [ht] at r
  obtain ⟨p, vs, ev, hs, rs⟩ := rp_tup r
  exact ⟨p, vs, ev, by rw [C.K]; exact hs, by rw [rs.len, hlen], hu H0 loc σ H vs (f a) Q A rs fun σ' A' => q σ' (by rw [← hΓ]; exact A')⟩
end

/-! ### for -/
def forR {α S ρ : Type} : List α → S → (α → S → Res (Fl S ρ)) → Res (Fl S ρ)
  | [], s, _ => .ok (.nx s)
  | x :: xs, s, f => (f x s).bind fun r => match r with
    | .nx s => forR xs s f
    | .ct s => forR xs s f
    | .bk s => .ok (.nx s)
    | .rt r => .ok (.rt r)
/-- n turns at most -/
def whileR {S ρ : Type} : Nat → S → (S → Res Bool) → (S → Res (Fl S ρ)) → Res (Fl S ρ)
  | 0, _, _, _ => .err
  | n + 1, s, c, f => (c s).bind fun b => if b = true then (f s).bind fun r => match r with
    | .nx s => whileR n s c f
    | .ct s => whileR n s c f
    | .bk s => .ok (.nx s)
    | .rt r => .ok (.rt r) else .ok (.nx s)
section
variable {G : Gv} {X : Cx} {W : WX} {GX : Option (List Sl)} {T : Bool} {Γ : List Sl} {N : List Str} {sc : Scope} {k : Nat} {pos : Pos} {e c tg : Expr} {α β ρ S : Type} [Enc α] [Enc β] [Enc ρ] {body rest : List Stmt} {Gs : S → List Sl}
theorem AtX.less {xt xt0 : List (V × Dt)} {h0 : Hp} {rs : Addr → Prop} {me : Option Addr} {loc : Nat → Addr} {σ : L2.St} {H : Hp} (A : AtX G GX ⟨h0, xt ++ xt0, rs, me⟩ loc σ H) : AtX G GX ⟨h0, xt0, rs, me⟩ loc σ H := by
  cases GX with
  | none => exact A
  | some Γ => exact At.less A
theorem hs_for {is : List Nat} {m : Res (List α)} {Γ1 : S → α → List Sl} {f : α → S → Res (Fl S ρ)} {s0 : S} (C : Dd G X W N sc k) (hx : SubX Γ GX) (hi : ES G X W Γ tg e m) (h0 : Sub Γ (Gs s0)) (ht : ∀ s, ETg G X is (Gs s) tg (Γ1 s)) (hb : ∀ a s, HL G X W GX T (Γ1 s a) body Gs (f a s))
    (hs : ∀ x, foldedSetIterable e X.env x = pure x := by intro _; rfl) : HS G X W GX T Γ (.For tg e body [] pos) Gs (m.bind fun xs => forR xs s0 f) := by
  intro H0 loc σ H D A q pins t I
  obtain ⟨wi, pi, hi⟩ := hi
  refine (ps_for C.po C.calm pi (pgW X tg) (pssW X body) hs).run pins t σ H D I (hi H0 loc σ H _ A (q.bind.imp (fun xs z J xt H1 e1 src hxt => ?_) fun x z => Xw.of A hx z))
  refine ⟨fun i n σ H => n = xs.length - i ∧ i ≤ xs.length ∧ ∃ s loc, At G (Gs s) ⟨H0.h, xt ++ H0.xt, H0.rs, H0.me⟩ loc σ H ∧ Po (forR (xs.drop i) s f) (FlP G T Gs H0 D) (XO G W GX H0), ⟨xs.length, by simp, Nat.zero_le _, s0, loc, ?_, by simpa using z⟩, ?_⟩
  · exact ((A.on e1).sub h0).more fun p hp => (hxt p hp).sub fun a q _ => h0.av q
  · rintro i n σ2 H2 ⟨rfl, hi', s, loc2, A2, z2⟩
    obtain ⟨s1, s2⟩ := src (Av (Gs s) ⟨H0.h, xt ++ H0.xt, H0.rs, H0.me⟩ loc2) H2 (fun p hp => A2.xts p (List.mem_append_left _ hp)) i
    by_cases hlt : i < xs.length
    · obtain ⟨hgo, hy⟩ := s2 hlt
      refine .inr ⟨hgo, fun σ' H' => ∃ s loc, At G (Gs s) ⟨H0.h, xt ++ H0.xt, H0.rs, H0.me⟩ loc σ' H' ∧ Po (forR (xs.drop (i + 1)) s f) (FlP G T Gs H0 D) (XO G W GX H0), fun σ' H' ⟨s', loc', A', z'⟩ => ⟨xs.length - (i + 1), by omega, rfl, hlt, s', loc', A', z'⟩, fun x H3 hyl => ?_⟩
      obtain ⟨a, ha, e3, r3⟩ := hy x H3 hyl
      have ed : xs.drop i = a :: xs.drop (i + 1) := by
        have e1 : xs[i] = a := by
          have := List.getElem?_eq_getElem hlt
          rw [this] at ha; exact Option.some.inj ha
        rw [← e1]; exact List.drop_eq_getElem_cons hlt
      refine (ht s).2 ⟨H0.h, xt ++ H0.xt, H0.rs, H0.me⟩ loc2 σ2 H3 x a _ (A2.on e3) r3 fun σ4 A4 _ => ?_
      rw [ed] at z2
      refine hb a s ⟨H0.h, xt ++ H0.xt, H0.rs, H0.me⟩ loc2 σ4 H3 _ A4 (z2.bind.imp (fun r y => ?_) fun x y dd loc σ H A => y dd loc σ H A.less)
      cases r with
      | nx s' => exact fun loc σ H A => ⟨s', loc, A, y⟩
      | ct s' => exact fun loc σ H A => ⟨s', loc, A, y⟩
      | bk s' => exact fun loc σ H A => y loc σ H A.less
      | rt r => exact y
    · have ei : i = xs.length := by omega
      refine .inl ⟨s1 (by omega), ?_⟩
      rw [ei, List.drop_length] at z2
      exact z2 loc2 σ2 H2 A2.less
theorem hs_while {n : Nat} {m : S → Res Bool} {f : S → Res (Fl S ρ)} {s0 : S} (C : Dd G X W N sc k) (hx : ∀ s, SubX (Gs s) GX) (h0 : Sub Γ (Gs s0)) (hc : ∀ s, TB G X W (Gs s) c (m s)) (hb : ∀ s, HL G X W GX T (Gs s) body Gs (f s)) : HS G X W GX T Γ (.While c body [] pos) Gs (whileR n s0 m f) := by
  intro H0 loc σ H D A q pins t I
  refine (ps_while C.po (ptW X c) (pssW X body)).run pins t σ H D I ⟨fun n σ H => ∃ s loc, At G (Gs s) H0 loc σ H ∧ Po (whileR n s m f) (FlP G T Gs H0 D) (XO G W GX H0), ⟨n, s0, loc, A.sub h0, q⟩, ?_⟩
  rintro n σ1 H1 ⟨s, loc1, A1, z⟩
  cases n with
  | zero => exact z.elim
  | succ n =>
    refine hc s H0 loc1 σ1 H1 _ A1 (z.bind.imp (fun b y H2 e2 => ?_) fun x y => Xw.of A1 (hx s) y)
    cases b with
    | true =>
      rw [if_pos rfl] at y ⊢
      refine ⟨fun σ' H' => ∃ s loc, At G (Gs s) H0 loc σ' H' ∧ Po (whileR n s m f) (FlP G T Gs H0 D) (XO G W GX H0), fun σ' H' h => ⟨n, Nat.lt_succ_self _, h⟩, hb s H0 loc1 σ1 H2 _ (A1.on e2) (y.bind.imp (fun r y => ?_) fun _ y => y)⟩
      cases r with
      | nx s' => exact fun loc σ H A => ⟨s', loc, A, y⟩
      | ct s' => exact fun loc σ H A => ⟨s', loc, A, y⟩
      | bk s' => exact fun loc σ H A => y loc σ H A
      | rt r => exact y
    | false =>
      rw [if_neg Bool.false_ne_true] at y ⊢
      exact y loc1 σ1 H2 (A1.on e2)
/-- tg = e -/
theorem hl_tgt {is : List Nat} {m : Res α} {M : α → Res (Fl S ρ)} {Γ' : α → List Sl} (C : Dd G X W N sc k) (hx : SubX Γ GX) (he : TV G X W Γ .av e m) (ht : ETg G X is Γ tg Γ') (hr : ∀ a, HL G X W GX T (Γ' a) rest Gs (M a)) (hs : swapsWithSole [tg] e pos.line X.env = pure false := by rfl) (hw : swappedStores [tg] e X.env = pure none := by rfl)
    (h1 : (assignEach [tg] X.env).map (·.2) = [assign tg X.env] := by rfl) : HL G X W GX T Γ (.Assign [tg] e pos :: rest) Gs (m.bind M) := fun H0 loc σ H D A q pins t I => by
  exact (pss_cons (ps_asg (peW X e) (pgW X tg) hs hw h1) (pssW X rest)).run pins t σ H D I (he H0 loc σ H _ A (Po.mapI (q.bind.imp (fun a z v H' e1 r1 => ht.2 H0 loc σ H' v a _ (A.on e1) r1 fun σ' A' _ => hr a H0 loc σ' H' D A' z) fun x z => Xw.of A hx z)))
end

/-! ### comprehensions -/
def lcG {α β : Type} : List α → (α → Res Bool) → (α → Res β) → Res (List β)
  | [], _, _ => .ok []
  | x :: xs, c, f => (c x).bind fun b => if b = true then (f x).bind fun y => (lcG xs c f).bind fun ys => .ok (y :: ys) else lcG xs c f
/-- [f x for x in xs if c x] -/
def lcR {α β : Type} (xs : List α) (c : α → Res Bool) (f : α → Res β) : Res (List β) := if xs.length ≤ SZ then lcG xs c f else .err
abbrev W0 : WX := fun _ _ _ _ => False
def wipeG (Γ : List Sl) : List Nat → List Sl
  | [] => Γ
  | v :: vs => (wipeG Γ vs).set v .any
theorem wipeG_in {Γ : List Sl} {i : Nat} {s : Sl} : ∀ {vs : List Nat}, (wipeG Γ vs)[i]? = some s → s = .any ∨ (i ∉ vs ∧ Γ[i]? = some s)
  | [], h => .inr ⟨by simp, h⟩
  | v :: vs, h => by
    unfold wipeG at h
    rw [List.getElem?_set] at h
    split at h
    · split at h
      · exact .inl (Option.some.inj h).symm
      · cases h
    · rename_i e
      rcases wipeG_in h with q | ⟨q1, q2⟩
      · exact .inl q
      · exact .inr ⟨fun z => (List.mem_cons.mp z).elim (fun z => e z.symm) q1, q2⟩
theorem wipeG_len (Γ : List Sl) : ∀ vs : List Nat, (wipeG Γ vs).length = Γ.length
  | [] => rfl
  | v :: vs => by unfold wipeG; rw [List.length_set, wipeG_len Γ vs]
theorem wipeG_sub (Γ : List Sl) (vs : List Nat) : Sub Γ (wipeG Γ vs) := ⟨wipeG_len Γ vs, fun i s h => (wipeG_in h).imp id fun q => q.2⟩
theorem wipe_at (σ : L2.St) (j : Nat) : ∀ vs : List Nat, (wipe σ vs)[j]? = if j ∈ vs ∧ j < σ.length then some none else σ[j]?
  | [] => by rw [if_neg (by simp)]; rfl
  | v :: vs => by
    unfold wipe
    rw [List.getElem?_set, wipe_at σ j vs, wipe_length]
    by_cases e : v = j
    · subst e
      rw [if_pos rfl]
      by_cases hl : v < σ.length
      · rw [if_pos hl, if_pos ⟨List.mem_cons_self, hl⟩]
      · rw [if_neg hl, if_neg (fun h => hl h.2), List.getElem?_eq_none (by omega)]
    · rw [if_neg e]
      by_cases hm : j ∈ vs ∧ j < σ.length
      · rw [if_pos hm, if_pos ⟨List.mem_cons_of_mem _ hm.1, hm.2⟩]
      · rw [if_neg hm, if_neg (fun h => hm ⟨(List.mem_cons.mp h.1).elim (fun z => absurd z.symm e) id, h.2⟩)]
theorem wipe_same {σ σ' : L2.St} {is vs : List Nat} (h : Same is (wipe σ vs) σ') (hi : ∀ j ∈ is, j ∈ vs) : wipe σ' vs = wipe σ vs := by
  obtain ⟨hl, hs⟩ := h
  rw [wipe_length] at hl
  apply List.ext_getElem?
  intro j
  rw [wipe_at, wipe_at, hl]
  by_cases c : j ∈ vs ∧ j < σ.length
  · rw [if_pos c, if_pos c]
  · rw [if_neg c, if_neg c]
    by_cases hj : j ∈ is
    · have h1 : ¬ j < σ.length := fun z => c ⟨hi j hj, z⟩
      rw [List.getElem?_eq_none (by omega), List.getElem?_eq_none (by omega)]
    · rw [hs j hj, wipe_at, if_neg c]
theorem At.wipe {G : Gv} {Γ : List Sl} {H0 : Bs} {loc : Nat → Addr} {σ : L2.St} {H : Hp} (A : At G Γ H0 loc σ H) (vs : List Nat) : At G (wipeG Γ vs) H0 loc (L2.wipe σ vs) H := by
  have B := A.sub (wipeG_sub Γ vs)
  refine ⟨B.ex, B.xts, B.tabs, by rw [wipe_length]; exact B.len, B.inj, B.new, B.me, fun i s h => ?_⟩
  have q := B.slot i s h
  rcases wipeG_in h with e | ⟨e, _⟩
  · rw [e]; trivial
  · rw [wipe_at, if_neg fun z => e z.1]; exact q
section
variable {G : Gv} {X : Cx} {W : WX} {N : List Str} {sc scope : Scope} {k : Nat} {pos : Pos} {e elt tg iter c : Expr} {ifs : List Expr} {α β : Type} [Enc α] [Enc β] {Γ Γ0 : List Sl} {is : List Nat} {R Rb : Rg} {own : List (Str × Nat)}
/-- what a block's own code runs in -/
abbrev Bk (X : Cx) (scope : Scope) (s : Shared) (H : Hp) (D : Addr) (cl : List (Str × Addr)) (fp : List Addr) : Cx := X.blk s H scope (compEnvC scope cl D X.env) fp
theorem dx_blk (C : Dx G X W N sc k) (s : Shared) (H : Hp) (D : Addr) (cl : List (Str × Addr)) (fp : List Addr) : Dx G (Bk X scope s H D cl fp) W0 N (relS scope sc) k where
  n := C.n
  sc := by
    have e : (Bk X scope s H D cl fp).env.scope = relS scope X.env.scope := rfl
    rw [e, C.sc]
  K := C.K
  calm := C.calm
  room := C.room
  tk := fun u s' ⟨a, B, sI, pins, σ, H, cls, d, e, I, nb, up, sky, na, os, ag, w⟩ => w.elim
  nd := C.nd
/-- a clause's tests -/
def EIf (G : Gv) (X : Cx) (Γ : List Sl) (ifs : List Expr) (m : Res Bool) : Prop := (ifs = [] ∧ m = .ok true) ∨ ∃ c, ifs = [c] ∧ ET G X W0 Γ c m
theorem eif_nil : EIf G X Γ [] (.ok true) := .inl ⟨rfl, rfl⟩
theorem eif_one {m : Res Bool} (h : ET G X W0 Γ c m) : EIf G X Γ [c] m := .inr ⟨c, rfl, h⟩
/-- all of a block -/
structure Blk (G : Gv) (X : Cx) (N : List Str) (k : Nat) (sc scope : Scope) (is : List Nat) (Γ : List Sl) (tg elt : Expr) (ifs : List Expr) (own : List (Str × Nat)) (Rb : Rg) {α β : Type} [Enc α] [Enc β] (Γ1 : α → List Sl) (c : α → Res Bool) (f : α → Res β) : Prop where
  ok : BlkOk N sc scope own
  sub : ∀ j ∈ is, j ∈ own.map (·.2)
  run : ∀ (s : Shared) (H : Hp) (D : Addr) (cl : List (Str × Addr)) (fp : List Addr), Dx G (Bk X scope s H D cl fp) W0 N (relS scope sc) k →
    ETg G (Bk X scope s H D cl fp) is (wipeG Γ (own.map (·.2))) tg Γ1 ∧ (∀ a, EIf G (Bk X scope s H D cl fp) (Γ1 a) ifs (c a)) ∧ ∀ a, TV G (Bk X scope s H D cl fp) W0 (Γ1 a) Rb elt (f a)
/-- what is made new there: it is no other list, or it has none -/
def NoD (β : Type) [Enc β] (Rb : Rg) : Prop := ∀ (G : Gv) (Γ : List Sl) (H0 : Bs) (loc : Nat → Addr) (H H' : Hp) (v : V) (y : β), Rp G (rg Rb Γ H0 loc H) H' v (enc y) → Rp G (fun a => H a = none) H' v (enc y)
theorem nod_flat [Flat β] : NoD β Rb := fun G Γ H0 loc H H' v y r => Flat.any G _ _ H' v y r
theorem nod_nw : NoD β .nw := fun G Γ H0 loc H H' v y r => r
/-- the readings of a block's parts -/
def gB (X : Cx) (scope : Scope) (tg : Expr) : TG := fun v σ H Q => ∀ s H' D cl fp, WG (Bk X scope s H' D cl fp) tg v σ H Q
def tB (X : Cx) (scope : Scope) (ifs : List Expr) : TT := fun σ H Q => (ifs = [] ∧ Q true H) ∨ ∃ c, ifs = [c] ∧ ∀ s H' D cl fp, WT (Bk X scope s H' D cl fp) c σ H Q
def eB (X : Cx) (scope : Scope) (elt : Expr) : TE := fun σ H Q => ∀ s H' D cl fp, WE (Bk X scope s H' D cl fp) elt σ H Q
theorem pgB (X : Cx) (scope : Scope) (tg : Expr) (s : Shared) (H : Hp) (D : Addr) (cl : List (Str × Addr)) (fp : List Addr) : PG (Bk X scope s H D cl fp) tg (gB X scope tg) := ⟨fun pins t σ H1 v u Q I r h => h s H D cl fp pins t u I r⟩
theorem ptB (X : Cx) (scope : Scope) (ifs : List Expr) (s : Shared) (H : Hp) (D : Addr) (cl : List (Str × Addr)) (fp : List Addr) : PTs (Bk X scope s H D cl fp) ifs (tB X scope ifs) := ⟨fun pins t σ H1 Q I h => by
  rcases h with ⟨e, h⟩ | ⟨c, e, h⟩
  · subst e; exact pts_nil.run pins t σ H1 Q I h
  · subst e; exact (pts_one (ptW _ c)).run pins t σ H1 Q I (h s H D cl fp)⟩
theorem peB (X : Cx) (scope : Scope) (elt : Expr) (s : Shared) (H : Hp) (D : Addr) (cl : List (Str × Addr)) (fp : List Addr) : PE (Bk X scope s H D cl fp) elt (eB X scope elt) := ⟨fun pins t σ H1 Q I h => h s H D cl fp pins t I⟩
theorem Po.noexc {α : Type} {m : Res α} {p : α → Prop} {q q' : Exn → Prop} (h : Po m p q) (hn : ∀ x, m ≠ .exc x) : Po m p q' := by
  cases m with
  | ok a => exact h
  | exc x => exact absurd rfl (hn x)
  | err => exact h
/-- no exception: what is one there is beyond us -/
def nox {α : Type} (m : Res α) : Res α := match m with
  | .exc _ => .err
  | .ok a => .ok a
  | .err => .err
theorem Po.nox {α : Type} {m : Res α} {p : α → Prop} {q q' : Exn → Prop} (h : Po (nox m) p q) : Po m p q' := by
  cases m with
  | ok a => exact h
  | exc x => exact h.elim
  | err => exact h
theorem lc_t {wi : TI} {Γ1 : α → List Sl} {c : α → Res Bool} {f : α → Res β} {m : Res (List α)} (C : Dx G X W N sc k) (hi : ∀ (H0 : Bs) (loc : Nat → Addr) (σ : L2.St) (H : Hp) (R : It → Hp → Prop), At G Γ H0 loc σ H →
    Po m (fun xs => ∀ J xt H', Ex G H H' → Src G J xt xs → (∀ p ∈ xt, Rp G (Av Γ H0 loc) H' p.1 p.2) → R J H') (Xw G W σ H) → wi σ H R) (B : Blk G X N k sc scope is Γ tg elt ifs own Rb Γ1 c f) (hD : NoD β Rb)
    {H0 : Bs} {loc : Nat → Addr} {σ : L2.St} {H : Hp} {Q : VK} (A : At G Γ H0 loc σ H) (h : Po (m.bind fun xs => nox (lcR xs c f)) (fun ys => ∀ v H', Ex G H H' → Rp G (fun a => H a = none) H' v (enc ys) → Q v H') (Xw G W σ H)) :
    tLc wi (gB X scope tg) (tB X scope ifs) (eB X scope elt) (own.map (·.2)) σ H Q := by
  refine hi H0 loc σ H _ A (h.bind.imp (fun xs z J xt H1 e1 src hxt => ?_) fun _ z => z)
  have z : Po (lcR xs c f) (fun ys => ∀ v H', Ex G H H' → Rp G (fun a => H a = none) H' v (enc ys) → Q v H') (fun _ => False) := z.nox
  unfold lcR at z
  split at z
  case isFalse => exact z.elim
  rename_i hsz
  intro D hDn
  have e2 : Ex G H1 (upd H1 D (.lst [])) := .new hDn
  have A1 : At G (wipeG Γ (own.map (·.2))) ⟨H0.h, xt ++ H0.xt, H0.rs, H0.me⟩ loc (L2.wipe σ (own.map (·.2))) H1 := ((A.on e1).more hxt).wipe _
  refine ⟨fun i n H2 => n = xs.length - i ∧ i ≤ xs.length ∧ Ex G H1 H2 ∧ ∃ (vs : List V) (ys : List β), vs.length ≤ i ∧ H2 D = some (.lst vs) ∧ Rps G (fun a => H1 a = none ∧ a ≠ D) H2 vs (ys.map enc) ∧
      Po (lcG (xs.drop i) c f) (fun zs => ∀ v H', Ex G H H' → Rp G (fun a => H a = none) H' v (enc (ys ++ zs)) → Q v H') (fun _ => False), ⟨xs.length, by simp, Nat.zero_le _, e2, [], [], Nat.le_refl _, upd_same, .nil, by simpa using z⟩, ?_⟩
  rintro i n H2 ⟨rfl, hle, e3, vs, ys, hlen, hD2, rs, z2⟩
  have A2 := A1.on e3
  obtain ⟨s1, s2⟩ := src (Av (wipeG Γ (own.map (·.2))) ⟨H0.h, xt ++ H0.xt, H0.rs, H0.me⟩ loc) H2 (fun p hp => A2.xts p (List.mem_append_left _ hp)) i
  by_cases hlt : i < xs.length
  case neg =>
    have ei : i = xs.length := by omega
    refine .inl ⟨s1 (by omega), ?_⟩
    rw [ei, List.drop_length] at z2
    have z2 : ∀ v H', Ex G H H' → Rp G (fun a => H a = none) H' v (enc (ys ++ [])) → Q v H' := z2
    rw [List.append_nil] at z2
    exact z2 _ _ (e1.trans e3) (.lst (e1.f D hDn) hD2 (rs.sub fun a s _ => e1.f a s.1))
  obtain ⟨hgo, hy⟩ := s2 hlt
  refine .inr ⟨hgo, fun H' => Ex G H1 H' ∧ ∃ (vs : List V) (ys : List β), vs.length ≤ i + 1 ∧ H' D = some (.lst vs) ∧ Rps G (fun a => H1 a = none ∧ a ≠ D) H' vs (ys.map enc) ∧
      Po (lcG (xs.drop (i + 1)) c f) (fun zs => ∀ v H', Ex G H H' → Rp G (fun a => H a = none) H' v (enc (ys ++ zs)) → Q v H') (fun _ => False), fun H' h => ⟨xs.length - (i + 1), by omega, rfl, hlt, h⟩, fun x H3 hyl => ?_⟩
  obtain ⟨a, ha, e4, r4⟩ := hy x H3 hyl
  have ed : xs.drop i = a :: xs.drop (i + 1) := by
    have e1 : xs[i] = a := by
      have := List.getElem?_eq_getElem hlt
      rw [this] at ha; exact Option.some.inj ha
    rw [← e1]; exact List.drop_eq_getElem_cons hlt
  rw [ed] at z2
  intro s H' D' cl fp
  refine (B.run s H' D' cl fp (dx_blk C s H' D' cl fp)).1.2 ⟨H0.h, xt ++ H0.xt, H0.rs, H0.me⟩ loc _ H3 x a _ (A2.on e4) r4 fun σ4 A4 sm => ⟨wipe_same sm B.sub, ?_⟩
  have e34 := e3.trans e4
  have D3 : H3 D = some (.lst vs) := e4.k _ _ hD2 (fun _ z => nomatch z)
  have goOn : ∀ (b : Bool) (H5 : Hp), Ex G H3 H5 → Po (if b = true then (f a).bind fun y => (lcG (xs.drop (i + 1)) c f).bind fun ys => .ok (y :: ys) else lcG (xs.drop (i + 1)) c f) (fun zs => ∀ v H', Ex G H H' → Rp G (fun a => H a = none) H' v (enc (ys ++ zs)) → Q v H') (fun _ => False) →
      if b = true then eB X scope elt σ4 H5 fun y H4 => ∃ acc, H4 D = some (.lst acc) ∧ acc.length < sizeLine ∧ (Ex G H1 (upd H4 D (.lst (acc ++ [y]))) ∧ ∃ (vs : List V) (ys : List β), vs.length ≤ i + 1 ∧ (upd H4 D (.lst (acc ++ [y]))) D = some (.lst vs) ∧ Rps G (fun a => H1 a = none ∧ a ≠ D) (upd H4 D (.lst (acc ++ [y]))) vs (ys.map enc) ∧
        Po (lcG (xs.drop (i + 1)) c f) (fun zs => ∀ v H', Ex G H H' → Rp G (fun a => H a = none) H' v (enc (ys ++ zs)) → Q v H') (fun _ => False))
      else (Ex G H1 H5 ∧ ∃ (vs : List V) (ys : List β), vs.length ≤ i + 1 ∧ H5 D = some (.lst vs) ∧ Rps G (fun a => H1 a = none ∧ a ≠ D) H5 vs (ys.map enc) ∧
        Po (lcG (xs.drop (i + 1)) c f) (fun zs => ∀ v H', Ex G H H' → Rp G (fun a => H a = none) H' v (enc (ys ++ zs)) → Q v H') (fun _ => False)) := fun b H5 e5 z5 => by
    cases b with
    | false =>
      rw [if_neg Bool.false_ne_true] at z5 ⊢
      exact ⟨e34.trans e5, vs, ys, Nat.le_succ_of_le hlen, e5.k _ _ D3 (fun _ z => nomatch z), (rs.ex e4).ex e5, z5⟩
    | true =>
      rw [if_pos rfl] at z5 ⊢
      intro s H' D' cl fp
      refine (B.run s H' D' cl fp (dx_blk C s H' D' cl fp)).2.2 a ⟨H0.h, xt ++ H0.xt, H0.rs, H0.me⟩ loc σ4 H5 _ (A4.on e5) (Po.mapI (z5.bind.imp (fun y z6 v H6 e6 r6 => ?_) fun _ z => z.elim))
      have D5 : H5 D = some (.lst vs) := e5.k _ _ D3 (fun _ z => nomatch z)
      have D6 : H6 D = some (.lst vs) := e6.k _ _ D5 (fun _ z => nomatch z)
      have e16 := (e34.trans e5).trans e6
      have hu : Tr G (fun a => H1 a = none ∧ a ≠ D) (fun a => H1 a = none ∧ a ≠ D) H6 (upd H6 D (.lst (vs ++ [v]))) := tr_upd D6 trivial fun a s => s.2
      have ry : Rp G (fun a => H1 a = none ∧ a ≠ D) H6 v (enc y) := (hD G _ _ _ _ _ _ _ r6).sub fun a s _ => ⟨(e34.trans e5).f a s, fun z => by rw [z, D5] at s; cases s⟩
      refine ⟨vs, D6, by rw [sz_eq]; omega, ⟨fun b o h n => ?_, fun t => tabs_upd D6 trivial (e16.t t), fun b h => ?_, fun b o u h => ?_⟩, vs ++ [v], ys ++ [y], by rw [List.length_append]; simp; omega, upd_same, ?_, ?_⟩
      · rw [upd_ne (ne_of_none h hDn)]; exact e16.k b o h n
      · by_cases hb : b = D
        · rw [hb, upd_same] at h; cases h
        · rw [upd_ne hb] at h; exact e16.f b h
      · by_cases hb : b = D
        · rw [hb, upd_same] at h; cases h
        · rw [upd_ne hb] at h; exact e16.z b o u h
      · rw [List.map_append]
        exact ((((rs.ex e4).ex e5).ex e6).tr hu).app (.cons (ry.tr hu) .nil)
      · refine z6.bind.imp (fun zs z7 v H' e r => z7 v H' e ?_) fun _ z => z
        rw [List.append_assoc] at r
        exact r
  have z2' : Po ((c a).bind fun b => if b = true then (f a).bind fun y => (lcG (xs.drop (i + 1)) c f).bind fun ys => .ok (y :: ys) else lcG (xs.drop (i + 1)) c f) (fun zs => ∀ v H', Ex G H H' → Rp G (fun a => H a = none) H' v (enc (ys ++ zs)) → Q v H') (fun _ => False) := z2
  rcases (B.run s H' D' cl fp (dx_blk C s H' D' cl fp)).2.1 a with ⟨ei, ec⟩ | ⟨c', ei, _⟩
  · rw [ec] at z2'
    exact .inl ⟨ei, goOn true H3 (.refl _) z2'⟩
  · refine .inr ⟨c', ei, fun s H' D' cl fp => ?_⟩
    rcases (B.run s H' D' cl fp (dx_blk C s H' D' cl fp)).2.1 a with ⟨ei2, _⟩ | ⟨c2, ei2, hc⟩
    · rw [ei] at ei2; cases ei2
    · rw [ei] at ei2
      cases ei2
      exact hc ⟨H0.h, xt ++ H0.xt, H0.rs, H0.me⟩ loc σ4 H3 _ A4 (z2'.bind.imp (fun b zb H5 e5 => goOn b H5 e5 zb) fun _ z => z.elim)
/-- as a value -/
theorem tv_lc {c : α → Res Bool} {f : α → Res β} {Γ1 : α → List Sl} {m : Res (List α)} (C : Dx G X W N sc k) (hi : ES G X W Γ tg iter m) (B : Blk G X N k sc scope is Γ tg elt ifs own Rb Γ1 c f) (hD : NoD β Rb)
    (hs : ∀ x, foldedSetIterable iter X.env x = pure x := by intro _; rfl) : TV G X W Γ .nw (.ListComp elt [⟨tg, iter, ifs, 0⟩] scope pos) (m.bind fun xs => nox (lcR xs c f)) := by
  obtain ⟨wi, pi, hi⟩ := hi
  intro H0 loc σ H Q A h pins s I
  have ok : BlkOk X.N X.env.scope scope own := by rw [C.n, C.sc]; exact B.ok
  exact (pe_lc C.calm (by rw [C.n]; exact C.nd) pi ok (pgB X scope tg) (ptB X scope ifs) (peB X scope elt) hs).run pins s σ H Q I (lc_t C hi B hD A (Po.map h))
/-- name = [..] on one line -/
theorem hl_setLc {S ρ : Type} [Enc ρ] {GX : Option (List Sl)} {T : Bool} {rest : List Stmt} {Gs : S → List Sl} {i : Nat} {y : Str} {py spos : Pos} {c : α → Res Bool} {f : α → Res β} {Γ1 : α → List Sl} {m : Res (List α)} {M : List β → Res (Fl S ρ)} {Γ' : List β → List Sl} (C : Dd G X W N sc k) (hx : SubX Γ GX) (hN : N[i]? = some y) (hl : sc.names.lookup y = some .local) (hi : ES G X W Γ tg iter m) (B : Blk G X N k sc scope is Γ tg elt ifs own Rb Γ1 c f) (hD : NoD β Rb) (hΓ : ∀ a, Γ.set i (.val (enc a)) = Γ' a) (hr : ∀ a, HL G X W GX T (Γ' a) rest Gs (M a))
    (hk : sc.kind = .function) (hpl : (py.line == pos.line) = true) (ha : (scope.names.any fun (n, k) => n == y && (k == .local || k == .cell)) = false) (hs : ∀ x, foldedSetIterable iter X.env x = pure x := by intro _; rfl) :
    HL G X W GX T Γ (.Assign [.Name y py] (.ListComp elt [⟨tg, iter, ifs, 0⟩] scope pos) spos :: rest) Gs (m.bind fun xs => (nox (lcR xs c f)).bind M) := by
  obtain ⟨wi, pi, hi⟩ := hi
  intro H0 loc σ H D A q pins t I
  have ok : BlkOk X.N X.env.scope scope own := by rw [C.n, C.sc]; exact B.ok
  have hyl : X.env.scope.names.lookup y = some .local := by rw [C.sc]; exact hl
  refine (pss_cons (ps_setLc (i := i) C.calm (by rw [C.n]; exact C.nd) (by rw [C.n]; exact hN) hyl (sw_true (by rw [C.sc]; exact hk) hyl hpl ha) pi ok (pgB X scope tg) (ptB X scope ifs) (peB X scope elt) hs) (pssW X rest)).run pins t σ H D I ?_
  refine lc_t C.toDx hi B hD A (Q := fun x H1 => gName i x σ H1 (WSs X rest D)) ?_
  have q2 : Po ((m.bind fun xs => nox (lcR xs c f)).bind M) (FlP G T Gs H0 D) (XO G W GX H0) := by cases m <;> exact q
  exact q2.bind.imp (fun ys z v H' e r => by
    have B' : At G (Γ.set i (.val (enc ys))) H0 loc (σ.set i (some v)) H' := (A.on e).put (.inr ⟨_, rfl, r.sub fun a s _ => A.av s⟩)
    rw [hΓ] at B'
    exact hr ys H0 loc _ H' D B' z) fun x z => Xw.of A hx z
/-- .. its own -/
theorem hl_ownLc [Flat β] {S ρ : Type} [Enc ρ] {GX : Option (List Sl)} {T : Bool} {rest : List Stmt} {Gs : S → List Sl} {i : Nat} {y : Str} {py spos : Pos} {c : α → Res Bool} {f : α → Res β} {Γ1 : α → List Sl} {m : Res (List α)} {M : List β → Res (Fl S ρ)} {Γ' : List β → List Sl} (C : Dd G X W N sc k) (hx : SubX Γ GX) (hN : N[i]? = some y) (hl : sc.names.lookup y = some .local) (hi : ES G X W Γ tg iter m) (B : Blk G X N k sc scope is Γ tg elt ifs own Rb Γ1 c f) (hi0 : 0 < i) (hlt : i < Γ.length) (hΓ : ∀ a : List β, Γ.set i (.own (.l (a.map enc))) = Γ' a) (hr : ∀ a, HL G X W GX T (Γ' a) rest Gs (M a))
    (hk : sc.kind = .function) (hpl : (py.line == pos.line) = true) (ha : (scope.names.any fun (n, k) => n == y && (k == .local || k == .cell)) = false) (hs : ∀ x, foldedSetIterable iter X.env x = pure x := by intro _; rfl) :
    HL G X W GX T Γ (.Assign [.Name y py] (.ListComp elt [⟨tg, iter, ifs, 0⟩] scope pos) spos :: rest) Gs (m.bind fun xs => (nox (lcR xs c f)).bind M) := by
  obtain ⟨wi, pi, hi⟩ := hi
  intro H0 loc σ H D A q pins t I
  have ok : BlkOk X.N X.env.scope scope own := by rw [C.n, C.sc]; exact B.ok
  have hyl : X.env.scope.names.lookup y = some .local := by rw [C.sc]; exact hl
  refine (pss_cons (ps_setLc (i := i) C.calm (by rw [C.n]; exact C.nd) (by rw [C.n]; exact hN) hyl (sw_true (by rw [C.sc]; exact hk) hyl hpl ha) pi ok (pgB X scope tg) (ptB X scope ifs) (peB X scope elt) hs) (pssW X rest)).run pins t σ H D I ?_
  refine lc_t C.toDx hi B nod_flat A (Q := fun x H1 => gName i x σ H1 (WSs X rest D)) ?_
  have q2 : Po ((m.bind fun xs => nox (lcR xs c f)).bind M) (FlP G T Gs H0 D) (XO G W GX H0) := by cases m <;> exact q
  exact q2.bind.imp (fun ys z v H' e r => by
    obtain ⟨p, ev, hp, ho⟩ := Owns.own G H H' v ys e r
    subst ev
    have B' := A.putO (i := i) (c := Owns.oc ys) e hp hi0 hlt fun S _ => ho S
    have e2 : (Owns.oc ys : Oc) = .l (ys.map enc) := rfl
    rw [e2, hΓ] at B'
    exact hr ys H0 _ _ H' D B' z) fun x z => Xw.of A hx z
end
end CS
namespace CS
open Enc (enc)
open PySem PySem.Spec PyProof.Rows L2
def chk {α : Type} (c : Prop) [Decidable c] (m : Res α) : Res α := if c then m else .err
theorem Po.chk {α : Type} {c : Prop} [Decidable c] {m : Res α} {p : α → Prop} {q : Exn → Prop} (h : Po (chk c m) p q) : c ∧ Po m p q := by
  unfold CS.chk at h
  split at h
  · exact ⟨by assumption, h⟩
  · exact h.elim
section
variable {G : Gv} {X : Cx} {W : WX} {GX : Option (List Sl)} {T : Bool} {Γ : List Sl} {N : List Str} {sc : Scope} {k i : Nat} {R Ra Rb Rc : Rg} {pos p apos cpos pos' p1 : Pos} {a b c e o : Expr} {es : List Expr} {α β γ δ ρ S κ : Type} [Enc α] [Enc β] [Enc γ] [Enc δ] [Enc ρ] {x : Str} {rest : List Stmt} {Gs : S → List Sl}
/-- beyond us -/
theorem hl_err {sts : List Stmt} : HL G X W GX T Γ sts Gs (.err : Res (Fl S ρ)) := fun H0 loc σ H D A q => q.elim
theorem tv_err : TV G X W Γ R e (.err : Res α) := fun H0 loc σ H Q A q => q.elim
theorem tb_err : TB G X W Γ e .err := fun H0 loc σ H Q A q => q.elim
/-! ### names of the module -/
theorem tv_globS {z : Str} (C : Dx G X W N sc k) (hg : glB sc x = true) (hm : ∃ t, X.mg x = some (.str z t)) (hd : (x == ("__debug__" : Str)) = false := by decide) : TV G X W Γ R (.Name x pos) (.ok z) := by
  obtain ⟨t, hm⟩ := hm
  exact fun H0 loc σ H Q A h pins s I => (pe_glob (v := .str z) (gl_of C hg) hm ⟨t, rfl⟩ hd).run pins s σ H Q I (h _ H (.refl H) (.str z))
theorem tv_globI {z : Int} (C : Dx G X W N sc k) (hg : glB sc x = true) (hm : ∃ t, X.mg x = some (.int z t)) (hd : (x == ("__debug__" : Str)) = false := by decide) : TV G X W Γ R (.Name x pos) (.ok z) := by
  obtain ⟨t, hm⟩ := hm
  exact fun H0 loc σ H Q A h pins s I => (pe_glob (v := .int z) (gl_of C hg) hm ⟨t, rfl⟩ hd).run pins s σ H Q I (h _ H (.refl H) (.int z))

/-! ### methods of texts and lists, by values -/
def MtS1 (G : Gv) (X : Cx) (Ra Rb R : Rg) (id : String) {α β γ : Type} [Enc α] [Enc β] [Enc γ] (g : α → β → Res γ) : Prop := ∃ r, MtR X id r ∧ ∀ (Γ : List Sl) (H0 : Bs) (loc : Nat → Addr) (Hs : Hp) (σ : L2.St) (H : Hp) (Q : VK) (x : α) (y : β) (v u : V) (q : Exn → Prop),
  Ex G Hs H → At G Γ H0 loc σ H → Rp G (rg Ra Γ H0 loc Hs) H v (enc x) → Rp G (rg Rb Γ H0 loc Hs) H u (enc y) → Po (g x y) (fun z => Wv G (rg R Γ H0 loc Hs) Q (enc z) H) q → (∀ z, g x y ≠ .exc z) → r v [u] H Q
def MtS0 (G : Gv) (X : Cx) (Ra R : Rg) (id : String) {α γ : Type} [Enc α] [Enc γ] (g : α → Res γ) : Prop := ∃ r, MtR X id r ∧ ∀ (Γ : List Sl) (H0 : Bs) (loc : Nat → Addr) (Hs : Hp) (σ : L2.St) (H : Hp) (Q : VK) (x : α) (v : V) (q : Exn → Prop),
  Ex G Hs H → At G Γ H0 loc σ H → Rp G (rg Ra Γ H0 loc Hs) H v (enc x) → Po (g x) (fun z => Wv G (rg R Γ H0 loc Hs) Q (enc z) H) q → (∀ z, g x ≠ .exc z) → r v [] H Q
/-- of which type -/
class Ty (α : Type) [Enc α] (T : outParam String) : Prop where
  ty : ∀ (G : Gv) (S : Addr → Prop) (H : Hp) (v : V) (x : α), Rp G S H v (enc x) → tyV G.K T v H
instance : Ty Str "str" := ⟨fun G S H v x h => by rw [rp_str h]; rfl⟩
instance : Ty (List α) "list" := ⟨fun G S H v x h => by
  obtain ⟨q, vs, ev, s, hq, rs⟩ := rp_lst (ds := x.map enc) h
  rw [ev]; exact .inl ⟨rfl, vs, SqL.of hq⟩⟩
/-- g raises nothing -/
def Calm2r {α β γ : Type} (f : α → β → Res γ) : Prop := ∀ x y z, f x y ≠ .exc z
theorem tv_m1 {Ty0 id : String} {name : Str} {g : α → β → Res γ} [Ty α Ty0] (C : Dx G X W N sc k) (hb : MtS1 G X Ra Rb R id g) (hn : Calm2r g) {m : Res α} {n : Res β} (ho : TV G X W Γ Ra o m) (he : TV G X W Γ Rb e n) (pa : PlainAttrs Ty0) (slot : Slot Ty0 name id) (hty : typeOf (.builtin id) = pure (.type "method_descriptor"))
    (hbase : attributeBase o name X.env (eval o X.env) = eval o X.env := by rfl)
    (hfew : ((backTo cpos (starEach [e] X.env)).all (fun x => !x.1) && (backToKw cpos (keywordEach [] X.env)).all (fun x => x.1.isSome)
      && decide ([e].length + ([] : List Keyword).length + (if ([] : List Keyword).isEmpty then 0 else 1) < 30)) = true := by rfl)
    (hline : (apos.endLine == cpos.line) = true := by rfl) (hs : starEach [e] X.env = (false, eval e X.env) :: starEach [] X.env := by rfl) :
    TV G X W Γ R (.Call (.Attribute o name apos) [e] [] cpos) (m.bind fun x => n.bind fun y => g x y) := by
  obtain ⟨r, hr, hq⟩ := hb
  intro H0 loc σ H Q A h pins s I
  refine (pe_bm pa slot hty hr (peW X o) (pa_cons (peW X e) pa_nil hs) hbase hfew hline hs).run pins s σ H Q I (we1 ho A (p := fun y H1 => Wv G (rg R Γ H0 loc H) Q (enc y) H1) (fun r H1 H2 e q => wv_on _ _ _ e q) (Po.map h) fun x v H1 e1 A1 r1 h1 => ⟨by rw [C.K]; exact Ty.ty G _ H1 v x r1, ?_⟩)
  refine we1 he A1 (p := fun y H1 => Wv G (rg R Γ H0 loc H) Q (enc y) H1) (fun r H1 H2 e q => wv_on _ _ _ e q) h1 fun y u H2 e2 A2 r2 h2 => ?_
  exact hq Γ H0 loc H σ H2 Q x y v u _ (e1.trans e2) A2 (r1.ex e2) (r2.back e1) h2 (hn x y)
theorem tv_m0 {Ty0 id : String} {name : Str} {g : α → Res γ} [Ty α Ty0] (C : Dx G X W N sc k) (hb : MtS0 G X Ra R id g) (hn : Calm1 g) {m : Res α} (ho : TV G X W Γ Ra o m) (pa : PlainAttrs Ty0) (slot : Slot Ty0 name id) (hty : typeOf (.builtin id) = pure (.type "method_descriptor"))
    (hbase : attributeBase o name X.env (eval o X.env) = eval o X.env := by rfl) (hline : (apos.endLine == cpos.line) = true := by rfl) :
    TV G X W Γ R (.Call (.Attribute o name apos) [] [] cpos) (m.bind fun x => g x) := by
  obtain ⟨r, hr, hq⟩ := hb
  intro H0 loc σ H Q A h pins s I
  refine (pe_bm0 pa slot hty hr (peW X o) hbase hline).run pins s σ H Q I (we1 ho A (p := fun y H1 => Wv G (rg R Γ H0 loc H) Q (enc y) H1) (fun r H1 H2 e q => wv_on _ _ _ e q) (Po.map h) fun x v H1 e1 A1 r1 h1 => ⟨by rw [C.K]; exact Ty.ty G _ H1 v x r1, ?_⟩)
  exact hq Γ H0 loc H σ H1 Q x v _ e1 A1 r1 h1 (hn x)
def padR (f : Str → Int → Str) (x : Str) (i : Int) : Res Str := okIf (PadOk i = true) (f x i)
theorem m_ljust : MtS1 G X Ra Rb R "str.ljust" (padR Txt.ljust) := ⟨_, mt_ljust, fun Γ H0 loc Hs σ H Q x y v u q ee A r1 r2 h _ => by
  obtain ⟨c, h⟩ := h.okIf
  exact ⟨x, y, rp_str r1, by rw [rp_int r2], c, h.go (.str _)⟩⟩
theorem m_zfill : MtS1 G X Ra Rb R "str.zfill" (padR Txt.zfill) := ⟨_, mt_zfill, fun Γ H0 loc Hs σ H Q x y v u q ee A r1 r2 h _ => by
  obtain ⟨c, h⟩ := h.okIf
  exact ⟨x, y, rp_str r1, by rw [rp_int r2], c, h.go (.str _)⟩⟩
theorem m_find : MtS1 G X Ra Rb R "str.find" (fun x y : Str => .ok (Txt.find x y)) := ⟨_, mt_find, fun Γ H0 loc Hs σ H Q x y v u q ee A r1 r2 h _ => ⟨x, y, rp_str r1, by rw [rp_str r2], Wv.go h (.int _)⟩⟩
theorem m_startswith : MtS1 G X Ra Rb R "str.startswith" (fun x y : Str => .ok (Txt.startswith x y)) := ⟨_, mt_startswith, fun Γ H0 loc Hs σ H Q x y v u q ee A r1 r2 h _ => ⟨x, y, rp_str r1, by rw [rp_str r2], Wv.go h (.bl _)⟩⟩
def joinR (x : Str) (ys : List Str) : Res Str := okIf ((ys.map (·.length)).sum + ys.length * x.length ≤ 16777216) (Txt.join x ys)
theorem m_join (C : Dx G X W N sc k) : MtS1 G X Ra Rb R "str.join" joinR := ⟨_, mt_join, fun Γ H0 loc Hs σ H Q x y v u q ee A r1 r2 h _ => by
  obtain ⟨c, h⟩ := h.okIf
  obtain ⟨q, vs, ev, s, hq, rs⟩ := rp_lst (ds := y.map enc) r2
  have e := rps_strs_eq rs
  subst e
  exact ⟨x, q, y, rp_str r1, by rw [ev], .inl (SqL.of hq), c, h.go (.str _)⟩⟩
def sindexR (x y : Str) : Res Int := match Builtin.Str.occurrences x y 0 x.length 1 with
  | i :: _ => .ok (i : Nat)
  | [] => .err
theorem m_sindex : MtS1 G X Ra Rb R "str.index" sindexR := ⟨_, mt_sindex, fun Γ H0 loc Hs σ H Q x y v u q ee A r1 r2 h _ => by
  unfold sindexR at h
  split at h
  · rename_i i r e
    exact ⟨x, y, i, r, rp_str r1, by rw [rp_str r2], e, Wv.go h (.int _)⟩
  · exact h.elim⟩
/-! ### in a list, a tuple -/
/-- plain values -/
class Fv (α : Type) [Enc α] [DecidableEq α] where
  fv : α → V
  rp : ∀ (G : Gv) (S : Addr → Prop) (H : Hp) (v : V) (x : α), Rp G S H v (enc x) → v = fv x
  fl : ∀ x : α, flatV (fv x) = true
  eq : ∀ x y : α, eqV (fv x) (fv y) = decide (x = y)
instance : Fv Int := ⟨V.int, fun _ _ _ _ _ h => rp_int h, fun _ => rfl, fun x y => by show (x == y) = _; exact Bool.beq_eq_decide_eq x y⟩
instance : Fv Str := ⟨V.str, fun _ _ _ _ _ h => rp_str h, fun _ => rfl, fun x y => by show (x == y) = _; exact Bool.beq_eq_decide_eq x y⟩
theorem rps_fv [DecidableEq α] [Fv α] {S : Addr → Prop} {H : Hp} : ∀ {xs : List α} {vs : List V}, Rps G S H vs (xs.map enc) → vs = xs.map Fv.fv
  | [], _, .nil => rfl
  | x :: xs, _, .cons r t => by rw [Fv.rp G S H _ x r, rps_fv t]; rfl
theorem inV_fv [DecidableEq α] [Fv α] (x : α) (xs : List α) : inV (Fv.fv x) (xs.map Fv.fv) = decide (x ∈ xs) := by
  unfold inV
  induction xs with
  | nil => simp
  | cons y ys ih =>
    rw [List.map_cons, List.any_cons, ih, Fv.eq]
    by_cases h : y = x
    · simp [h]
    · have h' : ¬ x = y := fun z => h z.symm
      simp [h, h']
theorem all_fv [DecidableEq α] [Fv α] (xs : List α) : (xs.map Fv.fv).all flatV = true := by
  rw [List.all_eq_true]
  intro v hv
  obtain ⟨x, _, e⟩ := List.mem_map.mp hv
  rw [← e]; exact Fv.fl x
theorem cmp_inL [DecidableEq α] [Fv α] : CmpR G X .In (fun (x : α) (xs : List α) => .ok (decide (x ∈ xs))) := ⟨_, op_in_seq, fun x y v u H Q q r1 r2 h _ => by
  obtain ⟨a, vs, ev, s, hq, rs⟩ := rp_lst (ds := y.map enc) r2
  rw [rps_fv rs] at hq
  exact ⟨a, _, ev, .inl (SqL.of hq), by rw [Fv.rp _ _ _ _ x r1]; exact Fv.fl x, all_fv y, by rw [Fv.rp _ _ _ _ x r1, inV_fv]; exact h⟩⟩
theorem cmp_ninL [DecidableEq α] [Fv α] : CmpR G X .NotIn (fun (x : α) (xs : List α) => .ok (!decide (x ∈ xs))) := ⟨_, op_notIn_seq, fun x y v u H Q q r1 r2 h _ => by
  obtain ⟨a, vs, ev, s, hq, rs⟩ := rp_lst (ds := y.map enc) r2
  rw [rps_fv rs] at hq
  exact ⟨a, _, ev, .inl (SqL.of hq), by rw [Fv.rp _ _ _ _ x r1]; exact Fv.fl x, all_fv y, by rw [Fv.rp _ _ _ _ x r1, inV_fv]; exact h⟩⟩
/-- a tuple of values of one type -/
structure Tup (α : Type) where
  xs : List α
instance : Enc (Tup α) := ⟨fun t => .tup (t.xs.map enc)⟩
theorem cmp_inU [DecidableEq α] [Fv α] (C : Dx G X W N sc k) : CmpR G X .In (fun (x : α) (xs : Tup α) => .ok (decide (x ∈ xs.xs))) := ⟨_, op_in_seq, fun x y v u H Q q r1 r2 h _ => by
  obtain ⟨a, vs, ev, hq, rs⟩ := rp_tup (ds := y.xs.map enc) r2
  rw [rps_fv rs] at hq
  exact ⟨a, _, ev, .inr (by rw [C.K]; exact hq), by rw [Fv.rp _ _ _ _ x r1]; exact Fv.fl x, all_fv y.xs, by rw [Fv.rp _ _ _ _ x r1, inV_fv]; exact h⟩⟩
theorem cmp_ninU [DecidableEq α] [Fv α] (C : Dx G X W N sc k) : CmpR G X .NotIn (fun (x : α) (xs : Tup α) => .ok (!decide (x ∈ xs.xs))) := ⟨_, op_notIn_seq, fun x y v u H Q q r1 r2 h _ => by
  obtain ⟨a, vs, ev, hq, rs⟩ := rp_tup (ds := y.xs.map enc) r2
  rw [rps_fv rs] at hq
  exact ⟨a, _, ev, .inr (by rw [C.K]; exact hq), by rw [Fv.rp _ _ _ _ x r1]; exact Fv.fl x, all_fv y.xs, by rw [Fv.rp _ _ _ _ x r1, inV_fv]; exact h⟩⟩

/-! ### lists of one's own, changed -/
theorem At.trU {H0 : Bs} {loc : Nat → Addr} {σ : L2.St} {H : Hp} (A : At G Γ H0 loc σ H) {c : Oc} (h : Γ[i]? = some (.own c)) {u w : HO} (hu : H (loc i) = some u) (hm : isMu u) : Tr G (Av Γ H0 loc) (Av Γ H0 loc) H (upd H (loc i) w) := tr_upd hu hm fun a q => q.1 i ⟨c, h⟩
theorem At.var {H0 : Bs} {loc : Nat → Addr} {σ : L2.St} {H : Hp} (A : At G Γ H0 loc σ H) {c : Oc} (h : Γ[i]? = some (.own c)) : σ[i]? = some (some (.ref (loc i))) := (A.slot i _ h).1
theorem pe_own (C : Dx G X W N sc k) (hN : N[i]? = some x) (hv : visB sc x = true) (hd : (x == ("__debug__" : Str)) = false) (hcd : (x == ("__classdict__" : Str)) = false) : PE X (.Name x p) (tVar i) := pe_var (by rw [C.n]; exact hN) (by rw [C.sc]; exact vis_of hv) hd hcd
abbrev Few (X : Cx) (cpos : Pos) (es : List Expr) : Prop := ((backTo cpos (starEach es X.env)).all (fun x => !x.1) && (backToKw cpos (keywordEach [] X.env)).all (fun x => x.1.isSome)
      && decide (es.length + ([] : List Keyword).length + (if ([] : List Keyword).isEmpty then 0 else 1) < 30)) = true
/-- x.append(e) -/
theorem hl_app {xs : List α} {m : Res α} {M : List α → Res (Fl S ρ)} {Γ' : List α → List Sl} (C : Dx G X W N sc k) (hx : SubX Γ GX) (hN : N[i]? = some x) (hΓ : Γ[i]? = some (.own (.l (xs.map enc)))) (hv : visB sc x = true) (he : TV G X W Γ .av e m) (hΓ' : ∀ ys : List α, Γ.set i (.own (.l (ys.map enc))) = Γ' ys) (hr : ∀ ys, HL G X W GX T (Γ' ys) rest Gs (M ys))
    (hd : (x == ("__debug__" : Str)) = false := by decide) (hcd : (x == ("__classdict__" : Str)) = false := by decide) (hbase : attributeBase (.Name x p) "append" X.env (eval (.Name x p) X.env) = eval (.Name x p) X.env := by rfl)
    (hfew : Few X cpos [e] := by rfl) (hline : (apos.endLine == cpos.line) = true := by rfl) (hs : starEach [e] X.env = (false, eval e X.env) :: starEach [] X.env := by rfl) (hsw : swapsWith (.Call (.Attribute (.Name x p) "append" apos) [e] [] cpos) none pos.line X.env = pure false := by rfl) :
    HL G X W GX T Γ (.Expr (.Call (.Attribute (.Name x p) "append" apos) [e] [] cpos) pos :: rest) Gs (m.bind fun a => chk (xs.length < SZ) (M (xs ++ [a]))) := fun H0 loc σ H D A q pins t I => by
  refine (pss_cons (ps_expr (pe_bm F.plainAttrs_list F.slot_list_append F.type_list_append mt_append (pe_own C hN hv hd hcd) (pa_cons (peW X e) pa_nil hs) hbase hfew hline hs) hsw) (pssW X rest)).run pins t σ H D I ?_
  obtain ⟨_, vs0, hl0, _⟩ := A.slot i _ hΓ
  refine ⟨_, A.var hΓ, .inl ⟨rfl, vs0, SqL.of hl0⟩, he H0 loc σ H _ A (Po.mapI (q.bind.imp (fun a z v H1 e1 r1 => ?_) fun x z => Xw.of A hx z))⟩
  have A1 := A.on e1
  obtain ⟨_, vs, hl, rs⟩ := A1.slot i _ hΓ
  obtain ⟨hz, z⟩ := z.chk
  have tr := A1.trU hΓ (w := .lst (vs ++ [v])) hl trivial
  have hlen : vs.length = xs.length := by rw [rs.len, List.length_map]
  refine ⟨loc i, vs, v, rfl, rfl, hl, by rw [hlen, sz_eq]; exact hz, ?_⟩
  have B := A1.mut (c' := .l ((xs ++ [a]).map enc)) hΓ (o := .lst (vs ++ [v])) hl trivial trivial ⟨_, upd_same, by rw [List.map_append]; exact (rs.tr tr).app (.cons (r1.tr tr) .nil)⟩
  rw [hΓ'] at B
  exact hr _ H0 loc σ _ D B z
/-- x.extend(e), flat items -/
theorem hl_ext [Flat α] {xs : List α} {m : Res (List α)} {M : List α → Res (Fl S ρ)} {Γ' : List α → List Sl} (C : Dx G X W N sc k) (hx : SubX Γ GX) (hN : N[i]? = some x) (hΓ : Γ[i]? = some (.own (.l (xs.map enc)))) (hv : visB sc x = true) (he : TV G X W Γ Ra e m) (hΓ' : ∀ ys : List α, Γ.set i (.own (.l (ys.map enc))) = Γ' ys) (hr : ∀ ys, HL G X W GX T (Γ' ys) rest Gs (M ys))
    (hd : (x == ("__debug__" : Str)) = false := by decide) (hcd : (x == ("__classdict__" : Str)) = false := by decide) (hbase : attributeBase (.Name x p) "extend" X.env (eval (.Name x p) X.env) = eval (.Name x p) X.env := by rfl)
    (hfew : Few X cpos [e] := by rfl) (hline : (apos.endLine == cpos.line) = true := by rfl) (hs : starEach [e] X.env = (false, eval e X.env) :: starEach [] X.env := by rfl) (hsw : swapsWith (.Call (.Attribute (.Name x p) "extend" apos) [e] [] cpos) none pos.line X.env = pure false := by rfl) :
    HL G X W GX T Γ (.Expr (.Call (.Attribute (.Name x p) "extend" apos) [e] [] cpos) pos :: rest) Gs (m.bind fun ys => chk (xs.length + ys.length ≤ SZ) (M (xs ++ ys))) := fun H0 loc σ H D A q pins t I => by
  refine (pss_cons (ps_expr (pe_bm F.plainAttrs_list F.slot_list_extend F.type_list_extend mt_extend (pe_own C hN hv hd hcd) (pa_cons (peW X e) pa_nil hs) hbase hfew hline hs) hsw) (pssW X rest)).run pins t σ H D I ?_
  obtain ⟨_, vs0, hl0, _⟩ := A.slot i _ hΓ
  refine ⟨_, A.var hΓ, .inl ⟨rfl, vs0, SqL.of hl0⟩, he H0 loc σ H _ A (Po.mapI (q.bind.imp (fun a z v H1 e1 r1 => ?_) fun x z => Xw.of A hx z))⟩
  have A1 := A.on e1
  obtain ⟨_, vs, hl, rs⟩ := A1.slot i _ hΓ
  obtain ⟨hz, z⟩ := z.chk
  obtain ⟨b, ws, ev, sb, hb, rs2⟩ := rp_lst (ds := a.map enc) r1
  have tr := A1.trU hΓ (w := .lst (vs ++ ws)) hl trivial
  have hlen : vs.length = xs.length := by rw [rs.len, List.length_map]
  have hlen2 : ws.length = a.length := by rw [rs2.len, List.length_map]
  refine ⟨loc i, b, vs, ws, rfl, by rw [ev], hl, hb, by rw [hlen, hlen2, sz_eq]; exact hz, ?_⟩
  have rs3 : Rps G (Av Γ H0 loc) H1 ws (a.map enc) := rps_flat rs2
  have B := A1.mut (c' := .l ((xs ++ a).map enc)) hΓ (o := .lst (vs ++ ws)) hl trivial trivial ⟨_, upd_same, by rw [List.map_append]; exact (rs.tr tr).app (rs3.tr tr)⟩
  rw [hΓ'] at B
  exact hr _ H0 loc σ _ D B z
/-- x[e1] = e2 -/
def setI {α : Type} (xs : List α) (i : Int) (y : α) : Res (List α) := match ixN xs.length i with
  | some j => .ok (xs.set j y)
  | none => .err
theorem hl_seti {e2 : Expr} {xs : List α} {m : Res α} {n : Res Int} {M : List α → Res (Fl S ρ)} {Γ' : List α → List Sl} (C : Dx G X W N sc k) (hx : SubX Γ GX) (hN : N[i]? = some x) (hΓ : Γ[i]? = some (.own (.l (xs.map enc)))) (hv : visB sc x = true) (he : TV G X W Γ .av e m) (hi : TV G X W Γ Rb e2 n) (hΓ' : ∀ ys : List α, Γ.set i (.own (.l (ys.map enc))) = Γ' ys) (hr : ∀ ys, HL G X W GX T (Γ' ys) rest Gs (M ys))
    (hd : (x == ("__debug__" : Str)) = false := by decide) (hcd : (x == ("__classdict__" : Str)) = false := by decide)
    (ha : ∀ v, assign (.Subscript (.Name x p) e2 pos') X.env v = (do
      let ov ← holding [v] (eval (.Name x p) X.env)
      let iv ← holding [v, ov] (eval e2 X.env)
      standAt pos'
      holding [v, ov, iv] (setItem ov iv v)
      release [v, ov, iv] []) := by intro _; rfl)
    (hs : swapsWithSole [.Subscript (.Name x p) e2 pos'] e pos.line X.env = pure false := by rfl) (hw : swappedStores [.Subscript (.Name x p) e2 pos'] e X.env = pure none := by rfl)
    (h1 : (assignEach [.Subscript (.Name x p) e2 pos'] X.env).map (·.2) = [assign (.Subscript (.Name x p) e2 pos') X.env] := by rfl) :
    HL G X W GX T Γ (.Assign [.Subscript (.Name x p) e2 pos'] e pos :: rest) Gs (m.bind fun a => n.bind fun j => (setI xs j a).bind M) := fun H0 loc σ H D A q pins t I => by
  refine (pss_cons (ps_asg (peW X e) (pg_sub (pe_own C hN hv hd hcd) (peW X e2) set_list ha) hs hw h1) (pssW X rest)).run pins t σ H D I ?_
  refine he H0 loc σ H _ A (Po.mapI (q.bind.imp (fun a z v H1 e1 r1 => ?_) fun x z => Xw.of A hx z))
  have A1 := A.on e1
  refine ⟨_, A1.var hΓ, hi H0 loc σ H1 _ A1 (Po.mapI (z.bind.imp (fun j z w H2 e2 r2 => ?_) fun x z => Xw.of A1 hx z))⟩
  have A2 := A1.on e2
  obtain ⟨_, vs, hl, rs⟩ := A2.slot i _ hΓ
  unfold setI at z
  split at z
  case h_2 => exact z.elim
  rename_i j' hj
  have z : Po (M (xs.set j' a)) (FlP G T Gs H0 D) (XO G W GX H0) := z
  have tr := A2.trU hΓ (w := .lst (vs.set j' v)) hl trivial
  have hlen : vs.length = xs.length := by rw [rs.len, List.length_map]
  refine ⟨loc i, vs, j, j', rfl, rp_int r2, hl, by rw [hlen]; exact hj, ?_⟩
  have B := A2.mut (c' := .l ((xs.set j' a).map enc)) hΓ (o := .lst (vs.set j' v)) hl trivial trivial ⟨_, upd_same, by rw [List.map_set]; exact (rs.tr tr).set ((r1.ex e2).tr tr) j'⟩
  rw [hΓ'] at B
  exact hr _ H0 loc σ _ D B z

/-! ### dicts -/
section
variable [EKey κ] [DecidableEq κ]
def dget {κ α : Type} [DecidableEq κ] (kvs : List (κ × α)) (k : κ) : Option α := (kvs.find? fun kv => decide (kv.1 = k)).map (·.2)
def dput {κ α : Type} [DecidableEq κ] (kvs : List (κ × α)) (k : κ) (v : α) : List (κ × α) := if (kvs.any fun kv => decide (kv.1 = k)) = true then kvs.map (fun kv => if kv.1 = k then (kv.1, v) else kv) else kvs ++ [(k, v)]
abbrev dk (kvs : List (κ × α)) : List (Key × Dt) := kvs.map fun p => (EKey.key p.1, enc p.2)
theorem key_dec (a b : κ) : decide (EKey.key a = EKey.key b) = decide (a = b) := decide_eq_decide.mpr ⟨EKey.inj a b, fun h => by rw [h]⟩
theorem rpk_get {Q : Addr → Prop} {H : Hp} (j : κ) : ∀ {kvs : List (κ × α)} {vs : List (Key × V)}, RpK G Q H vs (dk kvs) → (∀ y, dget kvs j = some y → ∃ v, valV vs (EKey.key j) = some v ∧ Rp G Q H v (enc y)) ∧ (dget kvs j = none → valV vs (EKey.key j) = none)
  | [], _, .nil => ⟨(fun y h => nomatch (show (none : Option α) = some y from h)), fun _ => rfl⟩
  | p :: kvs, _, .cons r t => by
    by_cases e : p.1 = j
    · have e1 : dget (p :: kvs) j = some p.2 := by simp [dget, List.find?_cons, e]
      rw [e1, valV_pos (by rw [e])]
      exact ⟨fun y h => ⟨_, rfl, by rw [← Option.some.inj h]; exact r⟩, fun h => nomatch h⟩
    · have e1 : dget (p :: kvs) j = dget kvs j := by simp [dget, List.find?_cons, e]
      rw [e1, valV_neg (fun z => e (EKey.inj _ _ z))]
      exact rpk_get j t
theorem rpk_any {Q : Addr → Prop} {H : Hp} (j : κ) : ∀ {kvs : List (κ × α)} {vs : List (Key × V)}, RpK G Q H vs (dk kvs) → (vs.any fun kv => decide (kv.1 = EKey.key j)) = kvs.any fun kv => decide (kv.1 = j)
  | [], _, .nil => rfl
  | p :: kvs, _, .cons r t => by rw [List.any_cons, List.any_cons, rpk_any j t, key_dec]
theorem rpk_app {Q : Addr → Prop} {H : Hp} {j : Key} {v : V} {d : Dt} (q : Rp G Q H v d) : ∀ {ds : List (Key × Dt)} {vs : List (Key × V)}, RpK G Q H vs ds → RpK G Q H (vs ++ [(j, v)]) (ds ++ [(j, d)])
  | _, _, .nil => .cons q .nil
  | _, _, .cons r t => .cons r (rpk_app q t)
theorem rpk_repl {Q : Addr → Prop} {H : Hp} {j : κ} {v : V} {y : α} (q : Rp G Q H v (enc y)) : ∀ {kvs : List (κ × α)} {vs : List (Key × V)}, RpK G Q H vs (dk kvs) → RpK G Q H (vs.map fun kv => if kv.1 = EKey.key j then (kv.1, v) else kv) (dk (kvs.map fun kv => if kv.1 = j then (kv.1, y) else kv))
  | [], _, .nil => .nil
  | p :: kvs, _, .cons r t => by
    rw [List.map_cons, List.map_cons]
    by_cases e : p.1 = j
    · rw [if_pos (by rw [e]), if_pos e]; exact .cons q (rpk_repl q t)
    · rw [if_neg (fun z => e (EKey.inj _ _ z)), if_neg e]; exact .cons r (rpk_repl q t)
theorem rpk_put {Q : Addr → Prop} {H : Hp} {j : κ} {v : V} {y : α} (q : Rp G Q H v (enc y)) {kvs : List (κ × α)} {vs : List (Key × V)} (r : RpK G Q H vs (dk kvs)) : RpK G Q H (putK vs (EKey.key j) v) (dk (dput kvs j y)) := by
  unfold putK dput
  rw [rpk_any j r]
  split
  · exact rpk_repl q r
  · rw [dk, List.map_append]; exact rpk_app q r
theorem rpk_len {Q : Addr → Prop} {H : Hp} : ∀ {ds : List (Key × Dt)} {vs : List (Key × V)}, RpK G Q H vs ds → vs.length = ds.length
  | _, _, .nil => rfl
  | _, _, .cons _ t => by rw [List.length_cons, List.length_cons, rpk_len t]
/-- a key's value -/
class EKv (κ : Type) [EKey κ] [Enc κ] : Prop where
  kv : ∀ (G : Gv) (S : Addr → Prop) (H : Hp) (v : V) (x : κ), Rp G S H v (enc x) → v = kV (EKey.key x)
instance : EKv Int := ⟨fun _ _ _ _ _ h => rp_int h⟩
instance : EKv Str := ⟨fun _ _ _ _ _ h => rp_str h⟩
variable [Enc κ] [EKv κ]
/-- x[e1] = e2 -/
theorem hl_dput {e2 : Expr} {kvs : List (κ × α)} {m : Res α} {n : Res κ} {M : List (κ × α) → Res (Fl S ρ)} {Γ' : List (κ × α) → List Sl} (C : Dx G X W N sc k) (hx : SubX Γ GX) (hN : N[i]? = some x) (hΓ : Γ[i]? = some (.own (.d (dk kvs)))) (hv : visB sc x = true) (he : TV G X W Γ .av e m) (hi : TV G X W Γ Rb e2 n) (hΓ' : ∀ ys : List (κ × α), Γ.set i (.own (.d (dk ys))) = Γ' ys) (hr : ∀ ys, HL G X W GX T (Γ' ys) rest Gs (M ys))
    (hd : (x == ("__debug__" : Str)) = false := by decide) (hcd : (x == ("__classdict__" : Str)) = false := by decide) (hs : swapsWith e (some (.Subscript (.Name x p) e2 pos')) pos.line X.env = pure false := by rfl) :
    HL G X W GX T Γ (.Assign [.Subscript (.Name x p) e2 pos'] e pos :: rest) Gs (m.bind fun a => n.bind fun j => chk (kvs.length < SZ) (M (dput kvs j a))) := fun H0 loc σ H D A q pins t I => by
  refine (pss_cons (ps_dput (Nat.lt_of_le_of_lt (Nat.add_le_add_left (by decide) _) C.room.units) (pe_own C hN hv hd hcd) (peW X e2) (peW X e) hs) (pssW X rest)).run pins t σ H D I ?_
  refine he H0 loc σ H _ A (Po.mapI (q.bind.imp (fun a z v H1 e1 r1 => ?_) fun x z => Xw.of A hx z))
  have A1 := A.on e1
  refine ⟨_, A1.var hΓ, hi H0 loc σ H1 _ A1 (Po.mapI (z.bind.imp (fun j z w H2 e2 r2 => ?_) fun x z => Xw.of A1 hx z))⟩
  have A2 := A1.on e2
  obtain ⟨_, vs, hl, rs⟩ := A2.slot i _ hΓ
  obtain ⟨hz, z⟩ := z.chk
  have tr := A2.trU hΓ (w := .dK (putK vs (EKey.key j) v)) hl trivial
  have hlen : vs.length = kvs.length := by rw [rpk_len rs, List.length_map]
  refine ⟨loc i, _, rfl, by rw [EKv.kv _ _ _ _ _ r2]; exact .k hl (by rw [hlen, sz_eq]; exact hz), ?_⟩
  have B := A2.mut (c' := .d (dk (dput kvs j a))) hΓ (o := .dK (putK vs (EKey.key j) v)) hl trivial trivial ⟨_, upd_same, rpk_put ((r1.ex e2).tr tr) (RpK.tr tr rs)⟩
  rw [hΓ'] at B
  exact hr _ H0 loc σ _ D B z
def dgetR {κ α : Type} [DecidableEq κ] (d : List (κ × α)) (j : κ) : Res α := match dget d j with
  | some y => .ok y
  | none => .err
theorem rpd_of {H : Hp} {v : V} {Q : Addr → Prop} {d : Dct κ α} (h : Rp G Q H v (enc d)) : ∃ a vs, v = .ref a ∧ Q a ∧ Rd H a (.dK vs) ∧ RpK G Q H vs (dk d.kvs) := rp_dct (ds := dk d.kvs) h
/-- d[e] -/
theorem tv_dget {m : Res (Dct κ α)} {n : Res κ} (C : Dx G X W N sc k) (ha : TV G X W Γ Ra a m) (hb : TV G X W Γ Rb b n) (hs : NoSl b := by exact fun _ _ => rfl) : TV G X W Γ Ra (.Subscript a b pos) (m.bind fun d => n.bind fun j => dgetR d.kvs j) := fun H0 loc σ H Q A h pins s I =>
  (pe_dget (Nat.lt_of_le_of_lt (Nat.add_le_add_left (by decide) _) C.room.units) (peW X a) (peW X b) hs).run pins s σ H Q I (we2t ha hb A (p := fun y H1 => Wv G (rg Ra Γ H0 loc H) Q (enc y) H1) (fun r H1 H2 e q => wv_on _ _ _ e q) (Po.map h) fun d j v u H' ee A' r1 r2 h' => by
    unfold dgetR at h'
    split at h'
    · rename_i y hy
      obtain ⟨p, vs, ev, s, hd, rk⟩ := rpd_of r1
      obtain ⟨w, hw, rw⟩ := (rpk_get j rk).1 y hy
      exact ⟨p, w, ev, .inl ⟨vs, EKey.key j, hd, EKv.kv _ _ _ _ _ r2, hw.symm⟩, h'.go rw⟩
    · exact h'.elim)
theorem tv_inD {m : Res κ} {n : Res (Dct κ α)} (C : Dx G X W N sc k) (ha : TV G X W Γ Ra a m) (hb : TV G X W Γ Rb b n) (hm : behindInMarks .In b = false) : TV G X W Γ R (.Compare a [.In] [b] pos) (m.bind fun j => n.bind fun d => .ok (dget d.kvs j).isSome) := fun H0 loc σ H Q A h pins s I =>
  (pe_cmp (pc_din (Nat.lt_of_le_of_lt (Nat.add_le_add_left (by decide) _) C.room.units) (peW X a) (peW X b)) hm).run pins s σ H Q I (we2t ha hb A (p := fun y H1 => Wv G (rg R Γ H0 loc H) Q (enc y) H1) (fun r H1 H2 e q => wv_on _ _ _ e q) (Po.map h) fun j d v u H' ee A' r1 r2 h' => by
    obtain ⟨p, vs, ev, s, hd, rk⟩ := rpd_of r2
    refine ⟨p, valV vs (EKey.key j), ev, .inl ⟨vs, EKey.key j, hd, EKv.kv _ _ _ _ _ r1, rfl⟩, ?_⟩
    have e1 : (valV vs (EKey.key j)).isSome = (dget d.kvs j).isSome := by
      cases hg : dget d.kvs j with
      | none => rw [(rpk_get j rk).2 hg]; rfl
      | some y => obtain ⟨w, hw, _⟩ := (rpk_get j rk).1 y hg; rw [hw]; rfl
    rw [e1]
    exact Wv.go h' (.bl _))
theorem tb_inD {m : Res κ} {n : Res (Dct κ α)} (C : Dx G X W N sc k) (ha : TV G X W Γ Ra a m) (hb : TV G X W Γ Rb b n) (hm : behindInMarks .In b = false) : TB G X W Γ (.Compare a [.In] [b] pos) (m.bind fun j => n.bind fun d => .ok (dget d.kvs j).isSome) := fun H0 loc σ H Q A h pins s I =>
  (pt_cmp (pc_din (Nat.lt_of_le_of_lt (Nat.add_le_add_left (by decide) _) C.room.units) (peW X a) (peW X b)) hm).run pins s σ H Q I (we2t ha hb A (p := fun z H => Wb G Q z H) (fun r H1 H2 e q => wb_on _ _ _ e q) h fun j d v u H' ee A' r1 r2 h' => by
    obtain ⟨p, vs, ev, s, hd, rk⟩ := rpd_of r2
    refine ⟨p, valV vs (EKey.key j), ev, .inl ⟨vs, EKey.key j, hd, EKv.kv _ _ _ _ _ r1, rfl⟩, _, rfl, ?_⟩
    have e1 : (valV vs (EKey.key j)).isSome = (dget d.kvs j).isSome := by
      cases hg : dget d.kvs j with
      | none => rw [(rpk_get j rk).2 hg]; rfl
      | some y => obtain ⟨w, hw, _⟩ := (rpk_get j rk).1 y hg; rw [hw]; rfl
    rw [e1]
    exact h' H' (.refl H'))
theorem tv_ninD {m : Res κ} {n : Res (Dct κ α)} (C : Dx G X W N sc k) (ha : TV G X W Γ Ra a m) (hb : TV G X W Γ Rb b n) (hm : behindInMarks .NotIn b = false) : TV G X W Γ R (.Compare a [.NotIn] [b] pos) (m.bind fun j => n.bind fun d => .ok (!(dget d.kvs j).isSome)) := fun H0 loc σ H Q A h pins s I =>
  (pe_cmp (pc_dnotin (Nat.lt_of_le_of_lt (Nat.add_le_add_left (by decide) _) C.room.units) (peW X a) (peW X b)) hm).run pins s σ H Q I (we2t ha hb A (p := fun y H1 => Wv G (rg R Γ H0 loc H) Q (enc y) H1) (fun r H1 H2 e q => wv_on _ _ _ e q) (Po.map h) fun j d v u H' ee A' r1 r2 h' => by
    obtain ⟨p, vs, ev, s, hd, rk⟩ := rpd_of r2
    refine ⟨p, valV vs (EKey.key j), ev, .inl ⟨vs, EKey.key j, hd, EKv.kv _ _ _ _ _ r1, rfl⟩, ?_⟩
    have e1 : (valV vs (EKey.key j)).isSome = (dget d.kvs j).isSome := by
      cases hg : dget d.kvs j with
      | none => rw [(rpk_get j rk).2 hg]; rfl
      | some y => obtain ⟨w, hw, _⟩ := (rpk_get j rk).1 y hg; rw [hw]; rfl
    rw [e1]
    exact Wv.go h' (.bl _))
theorem tb_ninD {m : Res κ} {n : Res (Dct κ α)} (C : Dx G X W N sc k) (ha : TV G X W Γ Ra a m) (hb : TV G X W Γ Rb b n) (hm : behindInMarks .NotIn b = false) : TB G X W Γ (.Compare a [.NotIn] [b] pos) (m.bind fun j => n.bind fun d => .ok (!(dget d.kvs j).isSome)) := fun H0 loc σ H Q A h pins s I =>
  (pt_cmp (pc_dnotin (Nat.lt_of_le_of_lt (Nat.add_le_add_left (by decide) _) C.room.units) (peW X a) (peW X b)) hm).run pins s σ H Q I (we2t ha hb A (p := fun z H => Wb G Q z H) (fun r H1 H2 e q => wb_on _ _ _ e q) h fun j d v u H' ee A' r1 r2 h' => by
    obtain ⟨p, vs, ev, s, hd, rk⟩ := rpd_of r2
    refine ⟨p, valV vs (EKey.key j), ev, .inl ⟨vs, EKey.key j, hd, EKv.kv _ _ _ _ _ r1, rfl⟩, _, rfl, ?_⟩
    have e1 : (valV vs (EKey.key j)).isSome = (dget d.kvs j).isSome := by
      cases hg : dget d.kvs j with
      | none => rw [(rpk_get j rk).2 hg]; rfl
      | some y => obtain ⟨w, hw, _⟩ := (rpk_get j rk).1 y hg; rw [hw]; rfl
    rw [e1]
    exact h' H' (.refl H'))
end
end
end CS
namespace CS
open Enc (enc)
open PySem PySem.Spec PyProof.Rows L2
/-! ### objects -/
def putD (f : Str) (v : Dt) : List (Str × Dt) → List (Str × Dt)
  | [] => [(f, v)]
  | (g, x) :: r => if g = f then (g, v) :: r else (g, x) :: putD f v r
section
variable {G : Gv} {X : Cx} {W : WX} {GX : Option (List Sl)} {T : Bool} {Γ : List Sl} {N : List Str} {sc : Scope} {k i j : Nat} {R Ra Rb Rc : Rg} {pos p apos cpos pos' p1 : Pos} {a b c e o : Expr} {es : List Expr} {α β γ δ ρ S κ : Type} [Enc α] [Enc β] [Enc γ] [Enc δ] [Enc ρ] {x f m : Str} {rest : List Stmt} {Gs : S → List Sl}
theorem rpf_get {Q : Addr → Prop} {H : Hp} {f : Str} : ∀ {fs : List (Str × V)} {ds : List (Str × Dt)}, RpF G Q H fs ds → (∀ d, ds.lookup f = some d → ∃ v, fs.lookup f = some v ∧ Rp G Q H v d) ∧ (ds.lookup f = none → fs.lookup f = none)
  | _, _, .nil => ⟨(fun d h => nomatch (show (none : Option Dt) = some d from h)), fun _ => rfl⟩
  | _, _, .cons (k := g) r t => by
    rw [List.lookup_cons, List.lookup_cons]
    cases h : f == g with
    | true => exact ⟨fun d e => ⟨_, rfl, by cases e; exact r⟩, fun e => nomatch e⟩
    | false => exact rpf_get t
theorem rpf_put {Q : Addr → Prop} {H : Hp} {f : Str} {v : V} {d : Dt} (q : Rp G Q H v d) : ∀ {fs : List (Str × V)} {ds : List (Str × Dt)}, RpF G Q H fs ds → RpF G Q H (putF f v fs) (putD f d ds)
  | _, _, .nil => .cons q .nil
  | _, _, .cons (k := g) r t => by
    unfold putF putD
    by_cases e : g = f
    · rw [if_pos e, if_pos e]; exact .cons q t
    · rw [if_neg e, if_neg e]; exact .cons r (rpf_put q t)
theorem rpf_len {Q : Addr → Prop} {H : Hp} : ∀ {fs : List (Str × V)} {ds : List (Str × Dt)}, RpF G Q H fs ds → fs.length = ds.length
  | _, _, .nil => rfl
  | _, _, .cons _ t => by rw [List.length_cons, List.length_cons, rpf_len t]
theorem rp_obj {Q : Addr → Prop} {H : Hp} {v : V} {c : Nat} {ds : List (Str × Dt)} (h : Rp G Q H v (.obj c ds)) : ∃ a dx fs, v = .ref a ∧ Q a ∧ H a = some (.ins (G.cl c) dx fs) ∧ RpF G Q H fs ds := by
  cases h with
  | obj s h r => exact ⟨_, _, _, rfl, s, h, r⟩
/-- o.f -/
theorem tv_attr {n : Res α} {c : Nat} (C : Dx G X W N sc k) (ho : TV G X W Γ Ra o n) (g : α → β) (hg : ∀ x, ∃ fs, enc x = Dt.obj c fs ∧ fs.lookup f = some (enc (g x))) (cl : Cls X.K (G.cl c)) (na : NoAttr X.K (G.cl c) f) (hb : attributeBase o f X.env (eval o X.env) = eval o X.env := by rfl) :
    TV G X W Γ Ra (.Attribute o f pos) (n.bind fun x => .ok (g x)) := fun H0 loc σ H Q A h pins s I =>
  (pe_fld (peW X o) hb).run pins s σ H Q I (ho H0 loc σ H _ A (Po.mapI ((Po.map h).bind.imp (fun x z v H1 e1 r1 => by
    obtain ⟨fs, e2, e3⟩ := hg x
    rw [e2] at r1
    obtain ⟨q, dx, vs, ev, s, hq, rf⟩ := rp_obj r1
    obtain ⟨w, hw, rw⟩ := (rpf_get rf).1 _ e3
    exact ⟨q, _, dx, vs, w, ev, hq, cl, na, hw, z w H1 e1 rw⟩) fun _ z => z)))
/-- x.f = e, the object one's own -/
theorem hl_attr {c : Nat} {fs : List (Str × Dt)} {n : Res α} {M : α → Res (Fl S ρ)} {Γ' : α → List Sl} (C : Dx G X W N sc k) (hx : SubX Γ GX) (hN : N[i]? = some x) (hΓ : Γ[i]? = some (.own (.o c fs))) (hv : visB sc x = true) (he : TV G X W Γ .av e n) (cl : Cls X.K (G.cl c)) (na : NoAttr X.K (G.cl c) f) (hl : fs.length < 1000) (hΓ' : ∀ y, Γ.set i (.own (.o c (putD f (enc y) fs))) = Γ' y) (hr : ∀ y, HL G X W GX T (Γ' y) rest Gs (M y))
    (hd : (x == ("__debug__" : Str)) = false := by decide) (hcd : (x == ("__classdict__" : Str)) = false := by decide) (hs : swapsWith e (some (.Attribute (.Name x p) f pos')) pos.line X.env = pure false := by rfl) :
    HL G X W GX T Γ (.Assign [.Attribute (.Name x p) f pos'] e pos :: rest) Gs (n.bind M) := fun H0 loc σ H D A q pins t I => by
  refine (pss_cons (ps_fld (pe_own C hN hv hd hcd) (peW X e) hs) (pssW X rest)).run pins t σ H D I ?_
  refine he H0 loc σ H _ A (Po.mapI (q.bind.imp (fun y z v H1 e1 r1 => ?_) fun x z => Xw.of A hx z))
  have A1 := A.on e1
  obtain ⟨_, dx, vs, hl1, rs⟩ := A1.slot i _ hΓ
  have tr := A1.trU hΓ (w := .ins (G.cl c) dx (putF f v vs)) hl1 trivial
  refine ⟨_, A1.var hΓ, loc i, _, dx, vs, rfl, hl1, cl, na, by rw [rpf_len rs]; exact hl, ?_⟩
  have B := A1.mut (c' := .o c (putD f (enc y) fs)) hΓ (o := .ins (G.cl c) dx (putF f v vs)) hl1 trivial trivial ⟨dx, _, upd_same, rpf_put (r1.tr tr) (RpF.tr tr rs)⟩
  rw [hΓ'] at B
  exact hr y H0 loc σ _ D B z

/-! ### methods -/
structure Fm (G : Gv) (P : Program) (w : World) (K : PySem.W.Frag) (mg : Str → Option Value) (base : Heap) (T : Bool) (c : Nat) (m : Str) (R : List Dt → Res Dt → Prop) (dvs : List V) (j : Nat) : Prop where
  ex : ∃ f fd ps ds, FnOk P w K mg base (L2.CX P w) j f fd ps (CtT T G R) ∧ Meth K (G.cl c) m f ∧ Cls K (G.cl c) ∧ Binds K fd ps ds ∧ Vals dvs ds
abbrev Fy (G : Gv) (X : Cx) (T : Bool) (c : Nat) (m : Str) (R : List Dt → Res Dt → Prop) (dvs : List V) (j : Nat) : Prop := Fm G X.prog X.w X.K X.mg X.base T c m R dvs j
theorem pass_none {sp : Unit} (C : Dx G X W N sc k) : Passes (L2.CX X.prog X.w) X (fun _ _ _ => False) := passes_call C.tk fun _ _ _ _ h => h.elim
/-- o.m(), no exception -/
theorem tv_meth0 {c : Nat} {n : Res α} {g : α → Res γ} (C : Dx G X W N sc k) (F : Fy G X false c m (Rt (fun x : α => [enc x]) g) [] j) (hj : j ≤ k) (ho : TV G X W Γ Ra o n) (hc : ∀ x, ∃ fs, enc (x : α) = Dt.obj c fs ∧ fs.lookup m = none)
    {pl : Sem Bool} (ht : eval (.Call (.Attribute o m apos) [] [] pos) X.env = (do
      let ov ← eval o X.env
      standAt apos.atName
      let (f, first) ← holding [ov] (getMethod ov m pl)
      callWith pos f first (backTo pos (starEach [] X.env)) (backToKw pos (keywordEach [] X.env))) := by rfl) :
    TV G X W Γ .nw (.Call (.Attribute o m apos) [] [] pos) (n.bind fun x => nox (g x)) := by
  obtain ⟨fa, fd, ps, ds, hf, hm, hk, hb, hv⟩ := F.ex
  intro H0 loc σ H Q A h pins s I
  refine (pe_meth0 (peW X o) hk hm hf (C.room.mono hj) hb hv (pass_none (sp := ()) C) ht).run pins s σ H Q I (ho H0 loc σ H _ A (Po.mapI ((Po.map h).bind.imp (fun x z v H1 e1 r1 => ?_) fun _ z => z)))
  obtain ⟨fs, e2, e3⟩ := hc x
  have r2 := r1
  rw [e2] at r2
  obtain ⟨q, dx, vs, ev, s, hq, rf⟩ := rp_obj r2
  refine ⟨q, dx, vs, ev, hq, (rpf_get rf).2 e3, (A.on e1).tabs, [enc x], (g x).map enc, ?_, ⟨x, rfl, rfl⟩, Po.mapI (z.nox.imp (fun d q v H' e2 r2 => q v H' (e1.trans e2) (r2.sub fun a s _ => e1.f a s)) fun _ q => q)⟩
  cases hv
  exact .cons r1.top .nil

/-! ### new objects -/
def rem (H : Hp) (a : Addr) : Hp := fun b => if b = a then none else H b
theorem rem_ne {H : Hp} {a b : Addr} (h : b ≠ a) : rem H a b = H b := if_neg h
theorem rem_at {H : Hp} {a : Addr} : rem H a a = none := if_pos rfl
/-- what __init__ promises: R arguments, the fields -/
def CtI (G : Gv) (c : Nat) (R : List Dt → Res (List (Str × Dt)) → Prop) : Sp := fun vs H Q E => ∃ a dx rest, vs = .ref a :: rest ∧ H a = some (.ins (G.cl c) dx []) ∧ G.tabs H ∧ ∃ S ds m, (∀ b, S b → b ≠ a) ∧ Rps G S H rest ds ∧ R ds m ∧
  Po m (fun fs => ∀ H' dx' vs', Ex G (rem H a) H' → H' a = some (.ins (G.cl c) dx' vs') → RpF G (fun b => b ≠ a ∧ (S b ∨ H b = none)) H' vs' fs → Q .non H') (fun _ => False)
def RtI {ρ : Type} (t : ρ → List Dt) (g : ρ → Res (List (Str × Dt))) : List Dt → Res (List (Str × Dt)) → Prop := fun ds m => ∃ r, ds = t r ∧ m = g r
structure Fk (G : Gv) (P : Program) (w : World) (K : PySem.W.Frag) (mg : Str → Option Value) (base : Heap) (c : Nat) (x : Str) (R : List Dt → Res (List (Str × Dt)) → Prop) (dvs : List V) (j : Nat) : Prop where
  ex : ∃ f fd ps ds, FnOk P w K mg base (L2.CX P w) j f fd ps (CtI G c R) ∧ Mk K (G.cl c) f ∧ mg x = some (.ref (G.cl c)) ∧ Binds K fd ps ds ∧ Vals dvs ds
abbrev Fz' (G : Gv) (X : Cx) (c : Nat) (x : Str) (R : List Dt → Res (List (Str × Dt)) → Prop) (dvs : List V) (j : Nat) : Prop := Fk G X.prog X.w X.K X.mg X.base c x R dvs j
theorem ex_made {H : Hp} {x dx C : Addr} (hx : H x = none) (hd : H dx = none) (ne : dx ≠ x) : Ex G H (upd (upd H dx (.own x)) x (.ins C dx [])) := by
  have h1 : (upd H dx (.own x)) x = none := by rw [upd_ne ne.symm]; exact hx
  exact (Ex.new hd).trans (.new h1)
theorem ex_rem {H : Hp} {x dx C : Addr} (hx : H x = none) (hd : H dx = none) (ne : dx ≠ x) : Ex G H (rem (upd (upd H dx (.own x)) x (.ins C dx [])) x) := by
  have e : rem (upd (upd H dx (.own x)) x (.ins C dx [])) x = upd H dx (.own x) := by
    funext b
    by_cases hb : b = x
    · rw [hb, rem_at, upd_ne ne.symm, hx]
    · rw [rem_ne hb, upd_ne hb]
  rw [e]; exact .new hd
/-- C(e, ..): no exception; what is made stands where the arguments may stand -/
theorem tv_make {c : Nat} {ρ0 : Type} {dd : List Dt} {dvs : List V} {t : ρ0 → List Dt} {ms : Res ρ0} {g : ρ0 → Res α} {fl : α → List (Str × Dt)} (C : Dx G X W N sc k) (F : Fz' G X c x (RtI (fun r => t r ++ dd) (fun r => (g r).map fl)) dvs j) (hj : j + 1 ≤ k) (hg : glB sc x = true) (ha : EAt G X W Γ .av (e :: es) ms t) (hdd : ∀ (S : Addr → Prop) (H : Hp), Rps G S H dvs dd) (hfl : ∀ y, enc y = Dt.obj c (fl y))
    (hdb : (x == ("__debug__" : Str)) = false := by decide) (he : starEach (e :: es) X.env = (false, eval e X.env) :: starEach es X.env := by rfl) (hpl : (backTo pos (starEach es X.env)).any (·.1) = false := by rfl) : TV G X W Γ .av (.Call (.Name x p) (e :: es) [] pos) (ms.bind fun r => nox (g r)) := by
  obtain ⟨fa, fd, ps, ds, hf, hm, hmg, hb, hv⟩ := F.ex
  intro H0 loc σ H Q A h pins s I
  refine (pe_make hm hf (C.room.mono hj) (gl_of C hg) hmg hb hv (pass_none (sp := ()) C) (paW X (e :: es)) hdb he hpl).run pins s σ H Q I (ha H0 loc σ H _ A ((Po.map h).bind.imp (fun r z vs H1 e1 r1 => ?_) fun _ z => z))
  intro q dx hq hdx ne
  have A1 := A.on e1
  have em : Ex G H1 (upd (upd H1 dx (.own q)) q (.ins (G.cl c) dx [])) := ex_made hq hdx ne
  refine ⟨q, dx, vs ++ dvs, rfl, upd_same, em.t A1.tabs, fun b => Av Γ H0 loc b ∧ b ≠ q, t r ++ dd, (g r).map fl, fun b h => h.2, ?_, ⟨r, rfl, rfl⟩, ?_⟩
  · refine Rps.app ?_ (hdd _ _)
    have r2 : Rps G (fun b => Av Γ H0 loc b ∧ b ≠ q) H1 vs (t r) := r1.sub fun b s hn => ⟨s, fun zz => hn (by rw [zz]; exact hq)⟩
    exact r2.ex em
  · refine Po.mapI (z.nox.imp (fun y z H' dx' vs' e2 h2 rf => ⟨rfl, ?_⟩) fun _ z => z)
    have e3 := (ex_rem hq hdx ne).trans e2
    refine z _ H' (e1.trans e3) ?_
    rw [hfl]
    have rf2 : RpF G (Av Γ H0 loc) H' vs' (fl y) := rf.tr ((Ex.refl H').tr fun b s _ => s.2.elim (fun h => h.1) fun h => A1.av (by
      by_cases hb : b = dx
      · rw [hb, upd_ne ne, upd_same] at h; cases h
      · rw [upd_ne s.1, upd_ne hb] at h; exact h))
    exact .obj (A1.av hq) h2 rf2
end
end CS
namespace CS
open Enc (enc)
open PySem PySem.Spec PyProof.Rows L2

theorem Rps.toSl {G : Gv} {S : Addr → Prop} {H : Hp} : ∀ {vs : List V} {ds : List Dt}, Rps G S H vs ds → vs.length = ds.length := fun h => h.len
theorem start_len {N : List Str} {vs : List V} (h : vs.length ≤ N.length) : (L2.start N vs).length = N.length := by
  unfold L2.start
  rw [List.length_append, List.length_map, List.length_replicate]; omega
/-- the slots at a def's entry -/
def entryΓ (n : Nat) (ds : List Dt) : List Sl := ds.map Sl.val ++ List.replicate (n - ds.length) Sl.any
theorem entry_no {n : Nat} {ds : List Dt} {i : Nat} : ¬ Ow (entryΓ n ds) i := by
  rintro ⟨c, h⟩
  have hm := List.mem_of_getElem? h
  unfold entryΓ at hm
  rcases List.mem_append.mp hm with hm | hm
  · obtain ⟨d, _, e⟩ := List.mem_map.mp hm; cases e
  · exact nomatch (List.eq_of_mem_replicate hm)
theorem at_entry {G : Gv} {N : List Str} {ds : List Dt} {vs : List V} {H : Hp} {S : Addr → Prop} (ht : G.tabs H) (r : Rps G S H vs ds) (hl : ds.length ≤ N.length) (loc : Nat → Addr) : At G (entryΓ N.length ds) ⟨H, [], S, none⟩ loc (L2.start N vs) H where
  ex := .refl H
  xts := fun p hp => absurd hp (by simp)
  tabs := ht
  len := by rw [start_len (by rw [r.len]; exact hl), entryΓ, List.length_append, List.length_map, List.length_replicate]; omega
  inj := fun i j h => absurd h entry_no
  new := fun i h => absurd h entry_no
  me := fun a e => nomatch e
  slot := fun i s h => by
    unfold entryΓ at h
    by_cases hi : i < ds.length
    · rw [List.getElem?_append_left (by rw [List.length_map]; exact hi), List.getElem?_map, List.getElem?_eq_getElem hi] at h
      cases Option.some.inj h
      obtain ⟨v, hv, rv⟩ := r.get (i := i) (d := ds[i]) (List.getElem?_eq_getElem hi)
      have hv' : i < vs.length := (List.getElem?_eq_some_iff.mp hv).1
      refine ⟨v, ?_, rv.sub fun a s _ => ⟨fun j h => absurd h entry_no, .inl s⟩⟩
      unfold L2.start
      rw [List.getElem?_append_left (by rw [List.length_map]; exact hv'), List.getElem?_map, hv]; rfl
    · rw [List.getElem?_append_right (by rw [List.length_map]; omega)] at h
      rw [List.eq_of_mem_replicate (List.mem_of_getElem? h)]; trivial
/-- how a body's flow ends a def -/
def Fl.fin {S γ : Type} (en : S → Res γ) : Fl S γ → Res γ
  | .rt y => .ok y
  | .nx s => en s
  | _ => .err
section
variable {G : Gv} {P : Program} {w : World} {K : PySem.W.Frag} {mg : Str → Option Value} {base : Heap} {x qual : Str} {params : Arguments} {body : List Stmt} {scope : Scope} {dvs : List V} {kws : List (Str × V)} {fa : Addr} {fd : FuncData} {N ps : List Str} {k : Nat} {T : Bool} {ρ S γ : Type} [Enc γ]
theorem dd_of {cdv : Value} {A : Around} {outer : List Env} {s : Shared} {H : Hp} {E : XK} (hK : K = G.K) (Sc : FnScope N ps scope) (hr : Room k (A.deeper (envOfC qual scope s.heap.objs.size fa cdv))) : Dd G (cxOf (L2.CX P w) P w K mg base N qual scope fa cdv A outer s H E) (fun cls d _ H => E cls d H) N scope k where
  n := rfl
  sc := rfl
  K := hK
  calm := rfl
  room := hr
  tk := takes_of rfl rfl rfl rfl
  nd := Sc.nd
  fn := fun _ => rfl
  po := passes_of rfl
/-- the code object of the function at fa -/
def CodeAt (K : PySem.W.Frag) (fa : Addr) (qual : Str) (cdv : Value) : Prop := ∃ (oc : Value) (od : Option Addr) (fd : FuncData) (osl : Array (Option Value)), K.lookup fa = some ⟨oc, od, .func fd, osl⟩ ∧ fd.code = cdv ∧ PySem.W.codeIn K cdv qual = true
theorem ok_code {CX : CXT} {sp : Sp} (F : FunD K x qual params body scope dvs kws fa fd) (Sc : FnScope N ps scope) (len : ∀ vs H Q E, sp vs H Q E → vs.length = ps.length)
    (hbody : ∀ cdv : Value, CodeAt K fa qual cdv → ∀ (A : Around) (outer : List Env) (s : Shared) (H : Hp) (vs : List V) (Q : VK) (E : XK), Room k (A.deeper (envOfC qual scope s.heap.objs.size fa cdv)) → sp vs H Q E →
      ∃ t, PSs (cxOf CX P w K mg base N qual scope fa cdv A outer s H E) body t ∧ t { nx := fun _ H' => Q .non H', rt := Q } (L2.start N vs) H) : FnOk P w K mg base CX (k + 1) fa fd ps sp := by
  obtain ⟨oc, od, dV, kV, doc, pm, an, cdv, ct, osl, e, lk, hcd, _⟩ := F.ex
  subst e
  exact fn_of lk hcd Sc len (hbody cdv ⟨oc, od, _, osl, lk, rfl, hcd⟩)
/-- a def keeps its promise -/
theorem fn_HL {t : ρ → List Dt} {Gs : S → List Sl} {M : ρ → Res (Fl S γ)} {g : ρ → Res γ} {en : S → Res γ} (F : FunD K x qual params body scope dvs kws fa fd) (hK : K = G.K) (Sc : FnScope N ps scope) (hlen : ∀ r, (t r).length = ps.length)
    (hg : ∀ r, g r = (M r).bind (Fl.fin en)) (hen : ∀ s y, en s = .ok y → enc y = Dt.non) (hex : ∀ s z, en s ≠ .exc z)
    (hb : ∀ cdv : Value, CodeAt K fa qual cdv → ∀ (A : Around) (outer : List Env) (s : Shared) (H : Hp) (E : XK), Dd G (cxOf (L2.CX P w) P w K mg base N qual scope fa cdv A outer s H E) (fun cls d _ H => E cls d H) N scope k →
      ∀ r, HL G (cxOf (L2.CX P w) P w K mg base N qual scope fa cdv A outer s H E) (fun cls d _ H => E cls d H) none T (entryΓ N.length (t r)) body Gs (M r)) :
    FnOk P w K mg base (L2.CX P w) (k + 1) fa fd ps (CtT T G (Rt t g)) := by
  have hpl : ps.length ≤ N.length := by have := congrArg List.length Sc.pre; rw [List.length_take] at this; omega
  have lens : ∀ vs H Q E, CtT T G (Rt t g) vs H Q E → vs.length = ps.length := fun vs H Q E h => by
    cases T with
    | true =>
      obtain ⟨_, S, ds, m, r, ⟨y, e, _⟩, _⟩ := h
      rw [r.len, e, hlen]
    | false =>
      obtain ⟨_, ds, m, r, ⟨y, e, _⟩, _⟩ := h
      rw [r.len, e, hlen]
  refine ok_code F Sc lens fun cdv hcd A outer s H vs Q E hr h => ⟨_, pssW _ body, ?_⟩
  -- the two contracts in one
  have h2 : G.tabs H ∧ ∃ (S : Addr → Prop) (y : ρ), Rps G S H vs (t y) ∧ Po (g y) (fun d => ∀ v H', Ex G H H' → Rp G (fun a => (T = true ∧ S a) ∨ H a = none) H' v (enc d) → Q v H') (fun x => ∀ dd H', Ex G H H' → XAt G H' dd x → E (G.cv x.cls) dd H') := by
    cases T with
    | true =>
      obtain ⟨ht, S, ds, m, r, ⟨y, e, em⟩, q⟩ := h
      subst e; subst em
      exact ⟨ht, S, y, r, (Po.map q).imp (fun d z v H' e r => z v H' e (r.sub fun a s _ => s.imp (fun h => h.2) id)) fun _ z => z⟩
    | false =>
      obtain ⟨ht, ds, m, r, ⟨y, e, em⟩, q⟩ := h
      subst e; subst em
      exact ⟨ht, Top, y, r, (Po.map q).imp (fun d z v H' e r => z v H' e (r.sub fun a s _ => s.elim (fun h => absurd h.1 Bool.false_ne_true) id)) fun _ z => z⟩
  obtain ⟨ht, S, y, r, q⟩ := h2
  rw [hg] at q
  refine hb cdv hcd A outer s H E (dd_of hK Sc hr) y ⟨H, [], S, none⟩ (fun _ => 0) _ H _ (at_entry ht r (by rw [hlen]; exact hpl) _) (q.bind.imp (fun f z => ?_) fun x z dd loc σ H' a xa => z dd H' a.1 xa)
  cases f with
  | rt d => exact fun v H' e _ r => z v H' e r
  | nx s' =>
    intro loc σ H' A'
    have z : Po (en s') _ _ := z
    cases hs : en s' with
    | ok d =>
      rw [hs] at z
      have e := hen s' d hs
      exact z .non H' A'.ex (by rw [e]; exact .non)
    | exc x => exact absurd hs (hex s' x)
    | err => rw [hs] at z; exact z.elim
  | bk s' => exact z.elim
  | ct s' => exact z.elim
/-- .. by its name -/
theorem fc_of {t : ρ → List Dt} {g : ρ → Res γ} {dvs' : List V} {j : Nat} (hf : FnOk P w K mg base (L2.CX P w) j fa fd ps (CtT T G (Rt t g))) (hm : mg x = some (.ref fa)) (hk : PySem.W.keepIn K (.ref fa) = true) (hb : ∃ ds, Vals dvs' ds ∧ Binds K fd ps ds) : Fc G P w K mg base T x (Rt t g) dvs' j := by
  obtain ⟨ds, hv, hb⟩ := hb
  exact ⟨fa, fd, ps, ds, hf, hm, hk, hb, hv⟩
/-- __init__: the fields at its end -/
theorem init_HL {c : Nat} {t : ρ → List Dt} {Gs : S → List Sl} {M : ρ → Res (Fl S Dt)} {g : ρ → Res (List (Str × Dt))} {fs : S → List (Str × Dt)} (F : FunD K x qual params body scope dvs kws fa fd) (hK : K = G.K) (Sc : FnScope N ps scope) (hlen : ∀ r, (t r).length + 1 = ps.length)
    (hg : ∀ r, g r = (M r).bind (fun f => match f with | .nx s => .ok (fs s) | _ => .err)) (hfs : ∀ s, (Gs s)[0]? = some (.own (.o c (fs s))))
    (hb : ∀ cdv : Value, CodeAt K fa qual cdv → ∀ (A : Around) (outer : List Env) (s : Shared) (H : Hp) (E : XK), Dd G (cxOf (L2.CX P w) P w K mg base N qual scope fa cdv A outer s H E) (fun cls d _ H => E cls d H) N scope k →
      ∀ r, HL G (cxOf (L2.CX P w) P w K mg base N qual scope fa cdv A outer s H E) (fun cls d _ H => E cls d H) none false (.own (.o c []) :: entryΓ (N.length - 1) (t r)) body Gs (M r)) :
    FnOk P w K mg base (L2.CX P w) (k + 1) fa fd ps (CtI G c (RtI t g)) := by
  have hpl : ps.length ≤ N.length := by have := congrArg List.length Sc.pre; rw [List.length_take] at this; omega
  have lens : ∀ vs H Q E, CtI G c (RtI t g) vs H Q E → vs.length = ps.length := fun vs H Q E h => by
    obtain ⟨a, dx, rest, e, _, _, S, ds, m, _, r, ⟨y, e2, _⟩, _⟩ := h
    rw [e, List.length_cons, r.len, e2, hlen]
  refine ok_code F Sc lens fun cdv hcd A outer s H vs Q E hr h => ⟨_, pssW _ body, ?_⟩
  obtain ⟨a, dx, rest, e, ha, ht, S, ds, m, hSa, r, ⟨y, e2, e3⟩, q⟩ := h
  subst e; subst e2; subst e3
  rw [hg] at q
  have hl1 : (t y).length ≤ N.length - 1 := by have := hlen y; omega
  have hN1 : N.length = (N.length - 1) + 1 := by have := hlen y; omega
  have own1 : ∀ j, Ow (.own (.o c []) :: entryΓ (N.length - 1) (t y)) j → j = 0 := fun j h => by
    cases j with
    | zero => rfl
    | succ j => exact absurd (show Ow (entryΓ (N.length - 1) (t y)) j from h) entry_no
  have exr : Ex G (rem H a) H := ⟨fun b o h _ => by
    by_cases hb : b = a
    · rw [hb, rem_at] at h; cases h
    · rw [rem_ne hb] at h; exact h, fun _ => ht, fun b h => by
    by_cases hb : b = a
    · rw [hb, rem_at]
    · rw [rem_ne hb]; exact h, fun b o u h => by
    by_cases hb : b = a
    · rw [hb, ha] at h; cases h
    · rw [rem_ne hb]; exact h⟩
  have A0 : At G (.own (.o c []) :: entryΓ (N.length - 1) (t y)) ⟨rem H a, [], S, some a⟩ (fun _ => a) (L2.start N (.ref a :: rest)) H := by
    have st : L2.start N (.ref a :: rest) = some (.ref a) :: L2.start (N.drop 1) rest := by
      unfold L2.start
      rw [List.map_cons, List.cons_append, List.length_cons, List.length_drop]
      have : N.length - (rest.length + 1) = N.length - 1 - rest.length := by omega
      rw [this]
    have e0 := at_entry (N := N.drop 1) ht r (by rw [List.length_drop]; exact hl1) (fun _ => a)
    rw [List.length_drop] at e0
    refine ⟨exr, fun p hp => absurd hp (by simp), ht, by rw [st, List.length_cons, List.length_cons, e0.len], fun i j h1 h2 _ => by rw [own1 i h1, own1 j h2], fun i _ => rem_at, fun b e _ => Option.some.inj e, fun i s h => ?_⟩
    rw [st]
    cases i with
    | zero => cases Option.some.inj h; exact ⟨rfl, dx, [], ha, .nil⟩
    | succ i =>
      have q2 := e0.slot i s h
      cases s with
      | any => trivial
      | val d =>
        obtain ⟨u, h1, h2⟩ := q2
        refine ⟨u, h1, h2.sub fun b sb hn => ⟨fun j hj => ?_, ?_⟩⟩
        · rw [own1 j (by exact hj)] at *
          intro z
          rcases sb.2 with q3 | q3
          · exact hSa b q3 z
          · exact hn q3
        · rcases sb.2 with q3 | q3
          · exact .inl q3
          · exact absurd q3 hn
      | own c' => exact absurd (show Ow (entryΓ (N.length - 1) (t y)) i from ⟨c', h⟩) entry_no
  refine hb cdv hcd A outer s H E (dd_of hK Sc hr) y ⟨rem H a, [], S, some a⟩ (fun _ => a) _ H _ A0 (q.bind.imp (fun f z => ?_) fun x z => z.elim)
  cases f with
  | rt d => exact z.elim
  | bk s' => exact z.elim
  | ct s' => exact z.elim
  | nx s' =>
    intro loc σ H' A'
    have hs0 := hfs s'
    have hl0 : loc 0 = a := A'.me a rfl ⟨_, hs0⟩
    obtain ⟨_, dx', vs', h0, rf⟩ := A'.slot 0 _ hs0
    rw [hl0] at h0
    have z : ∀ H' dx' vs', Ex G (rem H a) H' → H' a = some (.ins (G.cl c) dx' vs') → RpF G (fun b => b ≠ a ∧ (S b ∨ H b = none)) H' vs' (fs s') → Q .non H' := z
    refine z H' dx' vs' A'.ex h0 (rf.tr ((Ex.refl H').tr fun b sb _ => ?_))
    have hne : b ≠ a := by have := sb.1 0 ⟨_, hs0⟩; rw [hl0] at this; exact this
    exact ⟨hne, sb.2.imp id fun q => (rem_ne hne).symm.trans (show rem H a b = none from q)⟩
end
end CS
namespace CS
open Enc (enc)
open PySem PySem.Spec PyProof.Rows L2
section
variable {G : Gv} {X : Cx} {W : WX} {GX : Option (List Sl)} {T : Bool} {Γ : List Sl} {N : List Str} {sc : Scope} {k i j : Nat} {R Ra Rb Rc : Rg} {pos p apos cpos pos' p1 p2 : Pos} {a b c d e o : Expr} {es : List Expr} {α β γ δ ρ S κ : Type} [Enc α] [Enc β] [Enc γ] [Enc δ] [Enc ρ] {x f m : Str} {rest : List Stmt} {Gs : S → List Sl}
theorem tv_var {i : Nat} {y : α} (C : Dx G X W N sc k) (hN : N[i]? = some x) (hΓ : Γ[i]? = some (.val (enc y))) (hv : visB sc x = true) (hd : (x == ("__debug__" : Str)) = false := by rfl) (hcd : (x == ("__classdict__" : Str)) = false := by rfl) : TV G X W Γ .av (.Name x pos) (.ok y) := ev_var C hN hΓ hv hd hcd
theorem tv_vO {i : Nat} {ys : List α} (C : Dx G X W N sc k) (hN : N[i]? = some x) (hΓ : Γ[i]? = some (.own (.l (ys.map enc)))) (hv : visB sc x = true) (hd : (x == ("__debug__" : Str)) = false := by rfl) (hcd : (x == ("__classdict__" : Str)) = false := by rfl) : TV G X W Γ .top (.Name x pos) (.ok ys) := ev_own C hN hΓ hv hd hcd
theorem tv_vD [EKey κ] {i : Nat} {ys : List (κ × α)} (C : Dx G X W N sc k) (hN : N[i]? = some x) (hΓ : Γ[i]? = some (.own (.d (ys.map fun p => (EKey.key p.1, enc p.2))))) (hv : visB sc x = true) (hd : (x == ("__debug__" : Str)) = false := by rfl) (hcd : (x == ("__classdict__" : Str)) = false := by rfl) : TV G X W Γ .top (.Name x pos) (.ok (Dct.mk ys)) := ev_own C hN hΓ hv hd hcd
theorem tv_int {n : Int} {j : Nat} : TV G X W Γ R (.Constant (.int n) j pos) (.ok n) := ev_int
theorem tv_str {n : Str} {j : Nat} : TV G X W Γ R (.Constant (.str n) j pos) (.ok n) := ev_str
theorem tv_bl {n : Bool} {j : Nat} : TV G X W Γ R (.Constant (.bool n) j pos) (.ok n) := ev_bl
theorem tv_non {j : Nat} : TV G X W Γ R (.Constant .none j pos) (.ok ()) := ev_non
theorem tv_nonD {j : Nat} : TV G X W Γ R (.Constant .none j pos) (.ok Dt.non) := ev_non

/-! ### chains of comparisons of whole numbers -/
def chT : Int → List ((Int → Int → Bool) × Res Int) → Res Bool
  | _, [] => .ok true
  | x, [(f, m)] => m.bind fun y => .ok (f x y)
  | x, (f, m) :: p :: l => m.bind fun y => if f x y = true then chT y (p :: l) else .ok false
/-- an order of whole numbers -/
def OrdI (G : Gv) (X : Cx) (op : CmpOp) (f : Int → Int → Bool) : Prop := OpR X (compareOp op) (rI0 fun i j => .bl (f i j))
theorem ord_lt : OrdI G X .Lt (fun x y => decide (x < y)) := op_lt
theorem ord_le : OrdI G X .LtE (fun x y => decide (x ≤ y)) := op_le
/-- the rest of a chain -/
def VT (G : Gv) (X : Cx) (W : WX) (Γ : List Sl) (ops : List CmpOp) (rs : List Expr) (l : List ((Int → Int → Bool) × Res Int)) : Prop := ∀ (pos : Pos) (H0 : Bs) (loc : Nat → Addr) (σ : L2.St) (Hs H : Hp) (R : Rg) (Q : VK) (x : Int) (v1 : Value) (pins : List (Addr × Obj)) (s : Shared), At G Γ H0 loc σ H → Inv X pins σ H s → RelV (.int x) v1 →
  Po (chT x l) (fun y => Wv G (rg R Γ H0 loc Hs) Q (enc y) H) (Xw G W σ H) → wpAny (model X.prog X.w) X.A (compareChain pos v1 ops (evalEach rs X.env)) (EP X pins σ Q) X.xe s
def BT (G : Gv) (X : Cx) (W : WX) (Γ : List Sl) (ops : List CmpOp) (rs : List Expr) (l : List ((Int → Int → Bool) × Res Int)) : Prop := ∀ (pos : Pos) (H0 : Bs) (loc : Nat → Addr) (σ : L2.St) (H : Hp) (Q : Bool → Hp → Prop) (x : Int) (v1 : Value) (pins : List (Addr × Obj)) (s : Shared), At G Γ H0 loc σ H → Inv X pins σ H s → RelV (.int x) v1 →
  Po (chT x l) (fun y => Wb G Q y H) (Xw G W σ H) → wpAny (model X.prog X.w) X.A (testChain pos v1 ops (evalEach rs X.env)) (TP X pins σ Q) X.xe s
theorem vt_one {g : Int → Int → Bool} {op : CmpOp} {n : Res Int} (h2 : OrdI G X op g) (hc : TV G X W Γ Rc c n) : VT G X W Γ [op] [c] [(g, n)] := fun pos H0 loc σ Hs H R Q y v1 pins s A I r1 z => by
  refine chain_last (thn (we1 hc A (p := fun y H1 => Wv G (rg R Γ H0 loc Hs) Q (enc y) H1) (fun r H1 H2 e q => wv_on _ _ _ e q) (show Po (n.bind fun z => .ok (g y z)) _ _ from z) (fun y2 v H4 e4 A4 r4 h4' => (?_ : (fun v H4 => ∃ z : Int, v = .int z ∧ Wv G (rg R Γ H0 loc Hs) Q (enc (g y z)) H4) v H4)) pins s I) fun v4 s4 h4' => ?_)
  · exact ⟨y2, rp_int r4, h4'⟩
  · obtain ⟨w4, H4, I4, r4, z, ez, z4⟩ := h4'
    subst ez
    exact h2 pins s4 σ H4 (.int y) (.int z) v1 v4 Q I4 r1 r4 ⟨y, z, rfl, rfl, Wv.go z4 (.bl _)⟩
theorem vt_cons {f : Int → Int → Bool} {op op' : CmpOp} {ops : List CmpOp} {es : List Expr} {m : Res Int} {q : (Int → Int → Bool) × Res Int} {l : List ((Int → Int → Bool) × Res Int)} (h1 : OrdI G X op f) (hb : TV G X W Γ Rb b m) (ht : VT G X W Γ (op' :: ops) (c :: es) (q :: l)) : VT G X W Γ (op :: op' :: ops) (b :: c :: es) ((f, m) :: q :: l) := fun pos H0 loc σ Hs H R Q x v1 pins s A I r1 z => by
  refine chain_link (thn (we1 hb A (p := fun y H1 => Wv G (rg R Γ H0 loc Hs) Q (enc y) H1) (fun r H1 H2 e q => wv_on _ _ _ e q) (show Po (m.bind fun y => if f x y = true then chT y (q :: l) else .ok false) _ _ from z) (fun y v H2 e2 A2 r2 h2' => (?_ : (fun v H2 => ∃ y : Int, v = .int y ∧ At G Γ H0 loc σ H2 ∧ Po (if f x y = true then chT y (q :: l) else .ok false) (fun y => Wv G (rg R Γ H0 loc Hs) Q (enc y) H2) (Xw G W σ H2)) v H2)) pins s I) fun v2 s2 h2' => ?_)
  · exact ⟨y, rp_int r2, A2, h2'⟩
  · obtain ⟨w2, H2, I2, r2, y, ey, A2, z2⟩ := h2'
    subst ey
    refine thn (h1 pins s2 σ H2 (.int x) (.int y) v1 v2 (fun v H' => v = .bl (f x y) ∧ H' = H2) I2 r1 r2 ⟨x, y, rfl, rfl, rfl, rfl⟩) fun cv s3 h3 => ?_
    obtain ⟨w3, H3, I3, r3, e3, e4⟩ := h3
    subst e3; subst e4
    cases r3
    refine wpAny_truthy_bool ?_
    cases hf : f x y with
    | false =>
      rw [hf, if_neg Bool.false_ne_true] at z2
      rw [if_neg Bool.false_ne_true]
      exact ⟨.bl false, H3, I3, rfl, Wv.go z2 (.bl false)⟩
    | true =>
      rw [hf, if_pos rfl] at z2
      rw [if_pos rfl]
      exact ht pos H0 loc σ Hs H3 R Q y v2 pins s3 A2 I3 r2 z2
theorem bt_one {g : Int → Int → Bool} {op : CmpOp} {n : Res Int} (h2 : OrdI G X op g) (hc : TV G X W Γ Rc c n) : BT G X W Γ [op] [c] [(g, n)] := fun pos H0 loc σ H Q y v1 pins s A I r1 z => by
  refine test_last (thn (we1 hc A (p := fun y H1 => Wb G Q y H1) (fun r H1 H2 e q => wb_on _ _ _ e q) (show Po (n.bind fun z => .ok (g y z)) _ _ from z) (fun y2 v H4 e4 A4 r4 h4' => (?_ : (fun v H4 => ∃ z : Int, v = .int z ∧ Wb G Q (g y z) H4) v H4)) pins s I) fun v4 s4 h4' => ?_)
  · exact ⟨y2, rp_int r4, h4'⟩
  · obtain ⟨w4, H4, I4, r4, z, ez, z4⟩ := h4'
    subst ez
    refine thn (h2 pins s4 σ H4 (.int y) (.int z) v1 v4 (fun v H' => v = .bl (g y z) ∧ H' = H4) I4 r1 r4 ⟨y, z, rfl, rfl, rfl, rfl⟩) fun cv s5 h5 => ?_
    obtain ⟨w5, H5, I5, r5, e5, e6⟩ := h5
    subst e5; subst e6
    cases r5
    exact wpAny_truthy_bool ⟨H5, I5, z4 H5 (.refl _)⟩
theorem bt_cons {f : Int → Int → Bool} {op op' : CmpOp} {ops : List CmpOp} {es : List Expr} {m : Res Int} {q : (Int → Int → Bool) × Res Int} {l : List ((Int → Int → Bool) × Res Int)} (h1 : OrdI G X op f) (hb : TV G X W Γ Rb b m) (ht : BT G X W Γ (op' :: ops) (c :: es) (q :: l)) : BT G X W Γ (op :: op' :: ops) (b :: c :: es) ((f, m) :: q :: l) := fun pos H0 loc σ H Q x v1 pins s A I r1 z => by
  refine test_link (thn (we1 hb A (p := fun y H1 => Wb G Q y H1) (fun r H1 H2 e q => wb_on _ _ _ e q) (show Po (m.bind fun y => if f x y = true then chT y (q :: l) else .ok false) _ _ from z) (fun y v H2 e2 A2 r2 h2' => (?_ : (fun v H2 => ∃ y : Int, v = .int y ∧ At G Γ H0 loc σ H2 ∧ Po (if f x y = true then chT y (q :: l) else .ok false) (fun y => Wb G Q y H2) (Xw G W σ H2)) v H2)) pins s I) fun v2 s2 h2' => ?_)
  · exact ⟨y, rp_int r2, A2, h2'⟩
  · obtain ⟨w2, H2, I2, r2, y, ey, A2, z2⟩ := h2'
    subst ey
    refine thn (h1 pins s2 σ H2 (.int x) (.int y) v1 v2 (fun v H' => v = .bl (f x y) ∧ H' = H2) I2 r1 r2 ⟨x, y, rfl, rfl, rfl, rfl⟩) fun cv s3 h3 => ?_
    obtain ⟨w3, H3, I3, r3, e3, e4⟩ := h3
    subst e3; subst e4
    cases r3
    refine wpAny_truthy_bool ?_
    cases hf : f x y with
    | false =>
      rw [hf, if_neg Bool.false_ne_true] at z2
      rw [if_neg Bool.false_ne_true]
      have z2 : Wb G Q false H3 := z2
      exact ⟨H3, I3, z2 H3 (.refl _)⟩
    | true =>
      rw [hf, if_pos rfl] at z2
      rw [if_pos rfl]
      exact ht pos H0 loc σ H3 Q y v2 pins s3 A2 I3 r2 z2
theorem tv_chN {op op' : CmpOp} {ops : List CmpOp} {l0 : Res Int} {l : List ((Int → Int → Bool) × Res Int)} (ha : TV G X W Γ Ra a l0) (ht : VT G X W Γ (op :: op' :: ops) (b :: c :: es) l) (hm : lastMarks (op :: op' :: ops) (b :: c :: es) = false := by with_unfolding_all rfl) :
    TV G X W Γ R (.Compare a (op :: op' :: ops) (b :: c :: es) pos) (l0.bind fun x => chT x l) := fun H0 loc σ H Q A h pins s I => by
  refine Compare_chain (thn (we1 ha A (p := fun y H1 => Wv G (rg R Γ H0 loc H) Q (enc y) H1) (fun r H1 H2 e q => wv_on _ _ _ e q) (Po.map h) (fun x v H1 e1 A1 r1 h1' => (?_ : (fun v H1 => ∃ x : Int, v = .int x ∧ At G Γ H0 loc σ H1 ∧ Po (chT x l) (fun y => Wv G (rg R Γ H0 loc H) Q (enc y) H1) (Xw G W σ H1)) v H1)) pins s I) fun v1 s1 h1' => ?_) hm
  · exact ⟨x, rp_int r1, A1, h1'⟩
  · obtain ⟨w1, H1, I1, r1, x, ex, A1, z1⟩ := h1'
    subst ex
    exact ht pos H0 loc σ H H1 R Q x v1 pins s1 A1 I1 r1 z1
theorem tb_chN {op op' : CmpOp} {ops : List CmpOp} {l0 : Res Int} {l : List ((Int → Int → Bool) × Res Int)} (ha : TV G X W Γ Ra a l0) (ht : BT G X W Γ (op :: op' :: ops) (b :: c :: es) l) (hm : lastMarks (op :: op' :: ops) (b :: c :: es) = false := by with_unfolding_all rfl) :
    TB G X W Γ (.Compare a (op :: op' :: ops) (b :: c :: es) pos) (l0.bind fun x => chT x l) := fun H0 loc σ H Q A h pins s I => by
  refine isTrue_chain (thn (we1 ha A (p := fun y H1 => Wb G Q y H1) (fun r H1 H2 e q => wb_on _ _ _ e q) h (fun x v H1 e1 A1 r1 h1' => (?_ : (fun v H1 => ∃ x : Int, v = .int x ∧ At G Γ H0 loc σ H1 ∧ Po (chT x l) (fun y => Wb G Q y H1) (Xw G W σ H1)) v H1)) pins s I) fun v1 s1 h1' => ?_) hm
  · exact ⟨x, rp_int r1, A1, h1'⟩
  · obtain ⟨w1, H1, I1, r1, x, ex, A1, z1⟩ := h1'
    subst ex
    exact ht pos H0 loc σ H1 Q x v1 pins s1 A1 I1 r1 z1

/-! ### x or [] -/
/-- nothing, or a list -/
class OptL (α β : Type) [Enc α] [Enc β] where
  get : α → List β
  ok : ∀ x : α, (enc x = Dt.non ∧ get x = []) ∨ enc x = enc (get x)
instance : OptL (List β) β := ⟨id, fun x => .inr rfl⟩
instance : OptL Unit β := ⟨fun _ => [], fun x => .inl ⟨rfl, rfl⟩⟩
instance : Enc (Option α) := ⟨fun o => match o with | some x => enc x | none => .non⟩
instance : OptL (Option (List β)) β := ⟨fun o => o.getD [], fun x => by cases x with
  | none => exact .inl ⟨rfl, rfl⟩
  | some x => exact .inr rfl⟩
theorem tv_orL [OptL α β] {l : Res α} (C : Dx G X W N sc k) (ha : TV G X W Γ R a l) : TV G X W Γ R (.BoolOp .Or [a, .List [] p] pos) (l.bind fun x => .ok (OptL.get x : List β)) := fun H0 loc σ H Q A h pins s I => by
  refine (pe_orT (peW X a) (pe_one (pe_lst pa_nil))).run pins s σ H Q I (ha H0 loc σ H _ A (Po.mapI ((Po.map h).bind.imp (fun x z v H1 e1 r1 => ?_) fun _ z => z)))
  have A1 := A.on e1
  have nilQ : (OptL.get x : List β) = [] → (0 ≤ sizeLine ∧ ∀ q, H1 q = none → Q (.ref q) (upd H1 q (.lst []))) := fun e => ⟨Nat.zero_le _, fun q hq => z _ _ (e1.trans (.new hq)) (by rw [e]; exact .lst (ds := []) (rg_new A1 e1 hq) upd_same .nil)⟩
  rcases OptL.ok (α := α) (β := β) x with ⟨en, eg⟩ | eg
  · rw [en] at r1
    rw [rp_non r1]
    exact ⟨false, rfl, by rw [if_neg Bool.false_ne_true]; exact nilQ eg⟩
  · have r2 := r1
    rw [eg] at r2
    obtain ⟨q, vs, ev, s, hq, rs⟩ := rp_lst (ds := (OptL.get x : List β).map enc) r2
    refine ⟨!vs.isEmpty, by rw [ev]; exact .inl ⟨vs, SqL.of hq, rfl⟩, ?_⟩
    cases vs with
    | nil =>
      have hl := rs.len
      rw [List.length_map] at hl
      exact nilQ (List.eq_nil_of_length_eq_zero hl.symm)
    | cons w ws => exact z v H1 e1 (by rw [ev]; exact .lst s hq rs)

/-! ### try, nothing raised -/
theorem dd_nox (C : Dd G X W N sc k) : Dd G X.nox W0 N sc k where
  n := C.n
  sc := C.sc
  K := C.K
  calm := C.calm
  room := C.room
  tk := fun u s' ⟨a, B, sI, pins, σ, H, cls, d, e, I, nb, up, sky, na, os, ag, w⟩ => w.elim
  nd := C.nd
  fn := C.fn
  po := by
    show PassesOwn (model X.prog X.w) X.A X.env fun _ _ => False
    exact fun u s h => h.elim
theorem hs_tryE {S1 : Type} {G1 : S1 → List Sl} {body orelse : List Stmt} {h0 : ExceptHandler} {hs : List ExceptHandler} {m : Res (Fl S1 ρ)} {M : S1 → Res (Fl S ρ)} {up : S1 → S} (C : Dd G X W N sc k) (hb : HL G X.nox W0 none T Γ body G1 m) (ho : ∀ s, HL G X W GX T (G1 s) orelse Gs (M s)) (hu : ∀ s, Sub (G1 s) (Gs (up s))) :
    HS G X W GX T Γ (.Try body (h0 :: hs) orelse [] pos) Gs ((nox m).bind fun f => f.go M up) := fun H0 loc σ H D A q pins t I => by
  refine (ps_try_thru (pssW X.nox body) (pssW X orelse)).run pins t σ H D I ?_
  refine hb H0 loc σ H _ A (Po.imp (Po.nox (q' := XO G W0 none H0) q.bind) (fun f z => ?_) fun _ z => z)
  cases f with
  | nx s => exact fun loc' σ' H' A' => ho s H0 loc' σ' H' D A' z
  | rt r => exact z
  | bk s => exact fun loc' σ' H' A' => z loc' σ' H' (A'.sub (hu s))
  | ct s => exact fun loc' σ' H' A' => z loc' σ' H' (A'.sub (hu s))

/-! ### more of statements -/
def Fl.cut {S ρ : Type} : Fl S ρ → Res (Fl S ρ)
  | .nx _ => .err
  | .rt r => .ok (.rt r)
  | .bk s => .ok (.bk s)
  | .ct s => .ok (.ct s)
/-- if c: .. that leaves the block -/
theorem hl_guardC {t : Res Bool} {m n : Res (Fl S ρ)} {sa : List Stmt} (hx : SubX Γ GX) (hc : TB G X W Γ c t) (ha : HL G X W GX T Γ sa Gs m) (hb : HL G X W GX T Γ rest Gs n) :
    HL G X W GX T Γ (.If c sa [] pos :: rest) Gs (t.bind fun z => if z = true then m.bind Fl.cut else n) := hl_guardS hx hc (fun H0 loc σ H D A q => ha H0 loc σ H D A (q.bind.imp (fun f z => by
      cases f with
      | nx s => exact z.elim
      | rt r => exact z
      | bk s => exact z
      | ct s => exact z) fun _ z => z)) (fun s e => by
    cases m with
    | ok f => cases f <;> simp [Res.bind, Fl.cut] at e
    | exc x => simp [Res.bind] at e
    | err => simp [Res.bind] at e) hb
/-- an own container is no more one's own alone -/
theorem hl_freeze {cc : Oc} {Γ' : List Sl} {sts : List Stmt} {m : Res (Fl S ρ)} (hΓ : Γ[i]? = some (.own cc)) (hΓ' : Γ.set i (.val cc.dt) = Γ') (h : HL G X W GX T Γ' sts Gs m) : HL G X W GX T Γ sts Gs m := fun H0 loc σ H D A q => h H0 loc σ H D (by have := A.freeze hΓ; rw [hΓ'] at this; exact this) q
/-- where nothing is one's own -/
theorem tv_noown {m : Res α} (hn : ∀ j, ¬ Ow Γ j) (h : TV G X W Γ .av e m) : TV G X W Γ .av e m := h
/-- divmod -/
def divmodR (x y : Int) : Res (Int × Int) := okIf (0 < y ∧ y < 1073741824) (x / y, x % y)
theorem tv_divmod {m n : Res Int} (C : Dx G X W N sc k) (ha : TV G X W Γ Ra a m) (hb : TV G X W Γ Rb b n) (hg : glB sc "divmod" = true) (hm : X.mg "divmod" = none)
    (hst : starEach [a, b] X.env = (false, eval a X.env) :: starEach [b] X.env := by rfl) (hst2 : starEach [b] X.env = (false, eval b X.env) :: starEach [] X.env := by rfl) (hpl : (backTo pos (starEach [b] X.env)).any (·.1) = false := by rfl) : TV G X W Γ R (.Call (.Name "divmod" p) [a, b] [] pos) (m.bind fun x => n.bind fun y => divmodR x y) := fun H0 loc σ H Q A h pins s I =>
  (pe_callB call_divmod (gl_of C hg) hm (by decide +kernel) (pa_cons (peW X a) (pa_cons (peW X b) pa_nil hst2) hst) (he := hst) (hpl := hpl)).run pins s σ H Q I (we2t ha hb A (p := fun z H1 => Wv G (rg R Γ H0 loc H) Q (enc z) H1) (fun r H1 H2 e q => wv_on _ _ _ e q) (Po.map h) fun x y v u H' ee A' r1 r2 h' => by
    obtain ⟨c, h'⟩ := h'.okIf
    exact ⟨x, y, by rw [rp_int r1, rp_int r2], c, fun q hq => h' _ _ (.new hq) (.tup (ds := [enc (x / y), enc (x % y)]) (.inl (.inl upd_same)) (.cons (.int _) (.cons (.int _) .nil)))⟩)
/-- sorted of whole numbers -/
def srtI : List Int → List Int := fun xs => xs.mergeSort
theorem srt_eq {ys xs : List Int} (hp : ys.Perm xs) (hs : ys.Pairwise (· ≤ ·)) : ys = srtI xs := by
  refine List.Perm.eq_of_pairwise (le := fun a b : Int => a ≤ b) (fun a b _ _ h1 h2 => Int.le_antisymm h1 h2) hs ?_ (hp.trans (List.mergeSort_perm xs (fun a b => decide (a ≤ b))).symm)
  have := List.pairwise_mergeSort (le := fun a b : Int => decide (a ≤ b)) (fun a b c h1 h2 => by simp at *; omega) (fun a b => by simp; omega) xs
  exact this.imp fun h => by simpa using h
theorem b_sortedI (C : Dx G X W N sc k) : Bi1 G X Γ Ra R (.builtin "sorted") (fun x : List Int => .ok (srtI x)) := ⟨_, cr_sortedI, fun H0 loc Hs σ H Q x v q ee A r h _ => by
  obtain ⟨q, vs, ev, hs, hv, rs⟩ := rp_lst (ds := x.map enc) r
  have e := rps_ints_eq rs
  subst e
  exact ⟨q, x, by rw [ev], SqL.of hv, fun ys p hp hpw hn => Wv.go (wv_on _ _ _ (.new hn) h) (.lst (rg_new A ee hn) upd_same (by rw [← srt_eq hp hpw]; exact rps_ints ys))⟩⟩
/-- sorted of a dict with whole numbers as keys -/
def sortedDI {α : Type} (d : Dct Int α) : Res (List Int) := okIf (d.kvs.length < 64) (srtI (d.kvs.map (·.1)))
theorem rpk_keys {Q : Addr → Prop} {H : Hp} : ∀ {kvs : List (Int × α)} {vs : List (Key × V)}, RpK G Q H vs (dk kvs) → vs.map (·.1) = (kvs.map (·.1)).map Sum.inl
  | [], _, .nil => rfl
  | p :: kvs, _, .cons r t => by rw [List.map_cons, List.map_cons, List.map_cons, rpk_keys t]; rfl
theorem b_sortedDI (C : Dx G X W N sc k) : Bi1 G X Γ Ra R (.builtin "sorted") (sortedDI : Dct Int α → Res (List Int)) := ⟨_, call_sortedDI C.calm, fun H0 loc Hs σ H Q x v q ee A r h _ => by
  obtain ⟨hz, h⟩ := h.okIf
  obtain ⟨q, vs, ev, s, hd, rk⟩ := rpd_of r
  exact ⟨q, vs, x.kvs.map (·.1), by rw [ev], hd, rpk_keys rk, by rw [List.length_map]; exact hz, fun ys p hp hpw hn => Wv.go (wv_on _ _ _ (.new hn) h) (.lst (rg_new A ee hn) upd_same (by rw [← srt_eq hp hpw]; exact rps_ints ys))⟩⟩
/-- an item of a tuple whose type is not known -/
def dtAt (d : Dt) (i : Int) : Res Dt := match d with
  | .tup ds => getI ds i
  | _ => .err
theorem tv_ixD {m : Res Dt} {i : Int} {j : Nat} {cp : Pos} (C : Dx G X W N sc k) (ha : TV G X W Γ Ra a m) : TV G X W Γ Ra (.Subscript a (.Constant (.int i) j cp) pos) (m.bind fun d => dtAt d i) := fun H0 loc σ H Q A h pins s I =>
  (pe_ix ix_tup (peW X a) (peW X _) (fun _ _ => rfl)).run pins s σ H Q I (ha H0 loc σ H _ A (Po.mapI ((Po.map h).bind.imp (fun d z v H1 e1 r1 => by
    intro pins s I
    refine pe_int.run pins s σ H1 _ I ?_
    unfold dtAt at z
    cases d with
    | tup ds =>
      obtain ⟨y, hy, z⟩ := getI_po z
      obtain ⟨q, vs, ev, hs, rs⟩ := rp_tup (show Rp G _ H1 v (.tup ds) from r1)
      obtain ⟨w, hw, rw⟩ := rs.atI hy
      exact ⟨q, vs, i, w, ev, rfl, by rw [C.K]; exact hs, hw, z w H1 e1 rw⟩
    | _ => exact z.elim) fun _ z => z)))
theorem calm_inS : Calm2 inS := fun x y z h => by unfold inS at h; split at h <;> cases h
theorem calm_ninS : Calm2 ninS := fun x y z h => by
  unfold ninS at h
  cases e : inS x y with
  | ok b => rw [e] at h; cases h
  | exc w => exact calm_inS x y w e
  | err => rw [e] at h; cases h
theorem calm_okIf {α β γ : Type} {c : α → β → Prop} [∀ x y, Decidable (c x y)] {f : α → β → γ} : Calm2r (fun x y => okIf (c x y) (f x y)) := fun x y z h => by unfold okIf at h; dsimp only at h; split at h <;> cases h
theorem calm_okIf1 {α γ : Type} {c : α → Prop} [∀ x, Decidable (c x)] {f : α → γ} : Calm1 (fun x => okIf (c x) (f x)) := fun x z h => by unfold okIf at h; dsimp only at h; split at h <;> cases h
end
def Fl.goL {S T ρ : Type} (f : Fl S ρ) (M : S → Res (Fl T ρ)) : Res (Fl T ρ) := match f with
  | .nx s => M s
  | .rt r => .ok (.rt r)
  | _ => .err
section
variable {G : Gv} {X : Cx} {W : WX} {GX : Option (List Sl)} {T : Bool} {Γ : List Sl} {N : List Str} {sc : Scope} {k i j : Nat} {R Ra Rb Rc : Rg} {pos p apos cpos pos' p1 p2 : Pos} {a b c d e o : Expr} {es : List Expr} {α β γ δ ρ S S1 κ : Type} [Enc α] [Enc β] [Enc γ] [Enc δ] [Enc ρ] {x f m : Str} {st : Stmt} {rest : List Stmt} {Gs : S → List Sl}
/-- a statement that no break and no continue leaves, then the rest -/
theorem hl_consL {G1 : S1 → List Sl} {m : Res (Fl S1 ρ)} {M : S1 → Res (Fl S ρ)} (h : HS G X W GX T Γ st G1 m) (hr : ∀ s, HL G X W GX T (G1 s) rest Gs (M s)) : HL G X W GX T Γ (st :: rest) Gs (m.bind fun f => f.goL M) := fun H0 loc σ H D A q pins t I =>
  (pss_cons (psW X st) (pssW X rest)).run pins t σ H D I (h H0 loc σ H { D with nx := WSs X rest D } A (q.bind.imp (fun f z => by
    cases f with
    | nx s => exact fun loc' σ' H' A' => hr s H0 loc' σ' H' D A' z
    | rt r => exact z
    | bk s => exact z.elim
    | ct s => exact z.elim) fun _ z => z))
theorem tv_some {l : Res α} (h : TV G X W Γ R a l) : TV G X W Γ R a (l.map some) := by
  have e : (l.map some).map (enc : Option α → Dt) = l.map enc := by cases l <;> rfl
  show EV G X W Γ R a ((l.map some).map enc)
  rw [e]; exact h
theorem tv_nonO {j : Nat} : TV G X W Γ R (.Constant .none j pos) (.ok (none : Option α)) := ev_non
/-- the own object, looked at -/
theorem tv_self {i c : Nat} {fs : List (Str × Dt)} {y : α} (C : Dx G X W N sc k) (hN : N[i]? = some x) (hΓ : Γ[i]? = some (.own (.o c fs))) (he : enc y = Dt.obj c fs) (hv : visB sc x = true := by rfl) (hd : (x == ("__debug__" : Str)) = false := by rfl) (hcd : (x == ("__classdict__" : Str)) = false := by rfl) : TV G X W Γ .top (.Name x pos) (.ok y) := by
  have h := ev_own (Γ := Γ) (pos := pos) (W := W) C hN hΓ hv hd hcd
  show EV G X W Γ .top (.Name x pos) (.ok (enc y))
  rw [he]; exact h
def repR {α : Type} (xs : List α) (n : Int) : Res (List α) := okIf (-9223372036854775808 ≤ n ∧ n < 9223372036854775808 ∧ xs.length * n.toNat ≤ SZ) (List.replicate n.toNat xs).flatten
theorem rps_rep {Q : Addr → Prop} {H : Hp} {vs : List V} {ds : List Dt} (h : Rps G Q H vs ds) : ∀ n : Nat, Rps G Q H (List.replicate n vs).flatten (List.replicate n ds).flatten
  | 0 => .nil
  | n + 1 => by rw [List.replicate_succ, List.replicate_succ, List.flatten_cons, List.flatten_cons]; exact h.app (rps_rep h n)
theorem map_rep {A B : Type} (f : A → B) (xs : List A) (n : Nat) : ((List.replicate n xs).flatten).map f = (List.replicate n (xs.map f)).flatten := by
  rw [List.map_flatten, List.map_replicate]
theorem tv_rep [Flat α] {l : Res (List α)} {n : Res Int} (ha : TV G X W Γ Ra a l) (hb : TV G X W Γ Rb b n) : TV G X W Γ R (.BinOp a .Mult b pos) (l.bind fun x => n.bind fun y => repR x y) :=
  tv2 ha hb (pe_op op_rep (peW X a) (peW X b)) fun H0 loc Hs σ H Q x y v u ee A r1 r2 h => by
    obtain ⟨⟨c1, c2, c3⟩, h⟩ := h.okIf
    obtain ⟨q, vs, ev, s, hq, rs⟩ := rp_lst (ds := x.map enc) r1
    have hl : vs.length = x.length := by rw [rs.len, List.length_map]
    refine ⟨q, y, vs, ev, rp_int r2, hq, by omega, by omega, by rw [hl, sz_eq]; exact c3, fun p hp => h _ _ (.new hp) (.lst (rg_new A ee hp) upd_same ?_)⟩
    rw [map_rep]
    have r3 : Rps G (rg R Γ H0 loc Hs) H vs (x.map enc) := rps_flat rs
    exact rps_rep (r3.ex (.new hp)) _
theorem calm_intS : Calm1 intS := fun x z h => by
  unfold intS at h
  split at h
  · unfold okIf at h; split at h <;> cases h
  · cases h
theorem calm_sindex : Calm2r sindexR := fun x y z h => by unfold sindexR at h; split at h <;> cases h
end
@[simp] theorem Res.ok_bind {α β : Type} (a : α) (f : α → Res β) : (Res.ok a).bind f = f a := rfl
@[simp] theorem Res.err_bind {α β : Type} (f : α → Res β) : (Res.err : Res α).bind f = .err := rfl
@[simp] theorem Res.exc_bind {α β : Type} (x : Exn) (f : α → Res β) : (Res.exc x : Res α).bind f = .exc x := rfl
end CS
namespace CS
open Enc (enc)
open PySem PySem.Spec PyProof.Rows L2
/-! ### zip of a list and a text -/
def Itzs (K : PySem.W.Frag) (a : Addr) (x : Str) : It :=
  ⟨fun i H => ∃ (xs : List V) (v : V), SqL K H a xs ∧ xs[i]? = some v ∧ i < x.cps.size,
    fun i H v H' => ∃ T y c, v = .ref T ∧ H T = none ∧ H' = upd H T (.tup [y, .str ⟨#[c]⟩]) ∧ (∀ xs, SqL K H a xs → xs[i]? = some y) ∧ x.cps[i]? = some c,
    fun i H => ∃ xs : List V, SqL K H a xs ∧ i ≤ xs.length ∧ i ≤ x.cps.size ∧ (i = xs.length ∨ i = x.cps.size)⟩
theorem turn_zipS {P : Program} {w : World} {K : PySem.W.Frag} {elts : List Expr} {kk : Nat} {tpos : Pos} {a z TI TO i1 i2 : Addr} {x : Str} {t : Tok} (S : ZipSep2 z TI TO i1 i2 [i1, a] [i2]) :
    Turn P w K (.Tuple elts kk tpos) (Itzs K a x) [z, TI, TO, i1, i2] z (fun i h => IsZip h z TI TO .none ∧ IsTupOf2 h TI (.ref i1) (.ref i2) ∧ (∃ x y, IsTupOf2 h TO x y) ∧ h.IsListIter i1 a i ∧ h.IsStrIter i2 (strIterType x) x t i) where
  mem := by simp
  obj := fun i h st c hc => by
    obtain ⟨hz, hTI, ⟨x, y, hTO⟩, ⟨o1, e1, _, d1⟩, ⟨o2, e2, _, d2⟩⟩ := st
    have e' : c = z ∨ c = TI ∨ c = TO ∨ c = i1 ∨ c = i2 := by simpa using hc
    rcases e' with q | q | q | q | q
    · rw [q]; exact ⟨_, hz, fun v q => nomatch q⟩
    · rw [q]; exact ⟨_, hTI, fun v q => nomatch q⟩
    · rw [q]; exact ⟨_, hTO, fun v q => nomatch q⟩
    · rw [q]; exact ⟨o1, e1, fun v q => by rw [d1] at q; cases q⟩
    · rw [q]; exact ⟨o2, e2, fun v q => by rw [d2] at q; cases q⟩
  keep := fun i h h' st k => by
    obtain ⟨hz, hTI, ⟨x, y, hTO⟩, h1, o2, e2, r2⟩ := st
    exact ⟨k z (by simp) _ hz, k TI (by simp) _ hTI, ⟨x, y, k TO (by simp) _ hTO⟩, h1.at fun o q => k i1 (by simp) o q, o2, k i2 (by simp) o2 e2, r2⟩
  item := by
    intro X hP hw hK hc i pins s σ H E I hf st hg
    subst hP hw hK
    obtain ⟨hz, hTI, ⟨x0, y0, hTO⟩, h1, h2⟩ := st
    obtain ⟨xs, v, hqx, hx, hlt⟩ := hg
    obtain ⟨its, rv, p, _⟩ := I.list hqx
    obtain ⟨u, hu, ru⟩ := rv.get hx
    have hzl : z < s.heap.objs.size := Heap.lt_size hz
    have hne : a ≠ i1 := fun e => by
      obtain ⟨o1, e1, c1, d1⟩ := h1
      obtain ⟨o2, e2, c2, _⟩ := p.isList
      rw [e, e1] at e2
      cases e2
      rw [c1] at c2; exact absurd c2 (by decide +kernel)
    have D1 := Draws.list (prog := X.prog) (w := X.w) (A := X.A.in1) (I.ok.hd hc) i1 a hne its.toArray
    have D2 := Draws.text (prog := X.prog) (w := X.w) (A := X.A.in1) (I.ok.hd hc) i2 x t
    have hi1 : i < its.toArray.size := by
      have := (List.getElem?_eq_some_iff.mp hu).1
      simpa using this
    refine wpAny_pyNext_zipD2_item S D1 D2 hz hTI hTO ⟨h1, p.isList⟩ h2 hi1 hlt fun u1 u2 h' tk y1 y2 z' TO' st1 st2 hT hsz hk => ?_
    obtain ⟨c, tc, hcx, e2⟩ := y2
    subst e2
    have e1 : u1 = u := by
      have : its.toArray[i]? = some u := by simpa using hu
      rw [this] at y1; exact (Option.some.inj y1).symm
    subst e1
    refine ⟨_, rfl, wpAny_letOwnedTupleGo_zip (s := { s with heap := h', toks := tk }) z' fun h'' z'' sb => ?_⟩
    have hT2 : h''.get? s.heap.objs.size = some { cls := .type "tuple", data := .seq #[u1, .str ⟨#[c]⟩ tc] } := (sb.2 _ (Nat.ne_of_gt hzl)).trans hT
    have new : ObjOk X.prog X.w (upd H s.heap.objs.size (.tup [v, .str ⟨#[c]⟩])) h'' s.heap.objs.size (.tup [v, .str ⟨#[c]⟩]) :=
      ⟨by show 2 ≤ sizeLine; decide, [u1, .str ⟨#[c]⟩ tc], .cons ru (.cons ⟨tc, rfl⟩ .nil), ⟨_, hT2, rfl, _, rfl⟩⟩
    have I1 : Inv X pins σ (upd H s.heap.objs.size (.tup [v, .str ⟨#[c]⟩])) { s with heap := h'', toks := tk } :=
      I.turnedNew (t' := tk) (ch := [z, TI, TO, i1, i2]) (fun c o hb q => (sb.2 c (fun q' => hb (by simp [q']))).trans (hk c o (fun q' => hb (by simp [q'])) (fun q' => hb (by simp [q'])) (fun q' => hb (by simp [q'])) (fun q' => hb (by simp [q'])) q)) hf (Nat.le_refl _) new
    refine ⟨.ref s.heap.objs.size, _, I1, rfl, ⟨_, v, c, rfl, I.hok.fresh (Nat.le_refl _), rfl, fun l hl => by rw [I.list_inj hl hqx]; exact hx, hcx⟩, ⟨z'', ?_, ⟨u1, .str ⟨#[c]⟩ tc, ?_⟩, ?_, ?_⟩, fun c hcm => ?_⟩
    · exact (sb.2 _ S.TIz).trans (hk _ _ S.TIz S.TITO S.TIi1 S.TIi2 hTI)
    · exact (sb.2 _ S.TOz).trans TO'
    · exact st1.1.at fun o q => (sb.2 _ (fun e => S.zi1 e.symm)).trans q
    · obtain ⟨o2, e2, r2⟩ := st2
      exact ⟨o2, (sb.2 _ (fun e => S.zi2 e.symm)).trans e2, r2⟩
    · have hlt : c < s.heap.objs.size := by
        have e' : c = z ∨ c = TI ∨ c = TO ∨ c = i1 ∨ c = i2 := by simpa using hcm
        rcases e' with q | q | q | q | q
        · rw [q]; exact hzl
        · rw [q]; exact Heap.lt_size hTI
        · rw [q]; exact Heap.lt_size hTO
        · rw [q]; obtain ⟨_, e1, _⟩ := h1; exact Heap.lt_size e1
        · rw [q]; obtain ⟨_, e2, _⟩ := h2; exact Heap.lt_size e2
      rw [upd_ne (Nat.ne_of_lt hlt)]
      exact (hf c hcm).1
  done := by
    intro X hP hw hK hc i pins s σ H E I hf st hg
    subst hP hw hK
    obtain ⟨hz, hTI, ⟨x0, y0, hTO⟩, h1, h2⟩ := st
    obtain ⟨xs, hqx, hle1, hle2, hend⟩ := hg
    obtain ⟨its, rv, p, _⟩ := I.list hqx
    have l1 := rv.length
    have hne : a ≠ i1 := fun e => by
      obtain ⟨o1, e1, c1, d1⟩ := h1
      obtain ⟨o2, e2, c2, _⟩ := p.isList
      rw [e, e1] at e2
      cases e2
      rw [c1] at c2; exact absurd c2 (by decide +kernel)
    have D1 := Draws.list (prog := X.prog) (w := X.w) (A := X.A.in1) (I.ok.hd hc) i1 a hne its.toArray
    have D2 := Draws.text (prog := X.prog) (w := X.w) (A := X.A.in1) (I.ok.hd hc) i2 x t
    exact wpAny_pyNext_zipD2_end S D1 D2 hz hTI hTO ⟨h1, p.isList⟩ h2 (by simp; omega) hle2 (by simp; omega) fun h' tk hk => ⟨rfl, I.turnedL (t' := tk) (ch := [z, TI, TO, i1, i2]) (fun c o hb q =>
      hk c o (fun q' => hb (by simp [q'])) (fun q' => hb (by simp [q'])) (fun q' => hb (by simp [q'])) (fun q' => hb (by simp [q'])) q) hf⟩
  self := fun A i s Q E st h => wpAny_pyIter_zip st.1 h
def iZipS (K : PySem.W.Frag) (ta : TA) : TI := fun σ H R => ta σ H fun vs H1 => ∃ a x xs, vs = [.ref a, .str x] ∧ SqL K H1 a xs ∧ R (Itzs K a x) H1
theorem pi_zipS {X : Cx} {e e2 : Expr} {ta : TA} {p pos tpos : Pos} {elts : List Expr} {kk : Nat} (hg : Gl X "zip") (hm : X.mg "zip" = none) (ha : PA X [e, e2] ta)
    (hs : starEach [e, e2] X.env = (false, eval e X.env) :: starEach [e2] X.env := by rfl) (hpl : (backTo pos (starEach [e2] X.env)).any (·.1) = false := by rfl) :
    PI X (.Tuple elts kk tpos) (.Call (.Name "zip" p) [e, e2] [] pos) (iZipS X.K ta) := by
  refine ⟨fun pins s σ H R I h => ?_⟩
  refine Call_ (ld_blt I hg hm PyProof.Rows.boot_zip (PyProof.Rows.callWith_type1 (thn (ha.run pos pins s σ H _ I h) fun us s1 ⟨vs, H1, I1, r1, q1⟩ => ?_) hs hpl))
  obtain ⟨a, x, xs, ex, hqx, q⟩ := q1
  subst ex
  cases r1 with
  | cons r rr =>
    cases rr with
    | cons r' rr =>
      cases rr
      cases r
      obtain ⟨t, rfl⟩ := r'
      obtain ⟨its, rv, p1, _⟩ := I1.list hqx
      have la : a < s1.heap.objs.size := p1.lt
      refine zip_begins2 (begins_list a its.toArray) (begins_text x t) p1.isList trivial fun h' hz hTI hTO h1 h2 hsz hk => wpAny_pyIter_zip hz ?_
      have I2 : Inv X pins σ H1 { s1 with heap := h' } := I1.kept (t' := s1.toks) hk
      have S := zip_sep2 (N := s1.heap.objs.size) (fp1 := [a]) (fp2 := []) (fun b hb => by rw [List.mem_singleton.mp hb]; exact la) (fun b hb => absurd hb (by simp))
      refine ⟨s1.heap.objs.size + 4, [s1.heap.objs.size + 4, s1.heap.objs.size + 2, s1.heap.objs.size + 3, s1.heap.objs.size, s1.heap.objs.size + 1], _, _, H1, rfl, I2, turn_zipS (t := t) S, ⟨hz, hTI, ⟨_, _, hTO⟩, ⟨_, h1, rfl, rfl⟩, ⟨_, h2, rfl, rfl⟩⟩, fun c hcm => ?_, q⟩
      have e' : c = s1.heap.objs.size + 4 ∨ c = s1.heap.objs.size + 2 ∨ c = s1.heap.objs.size + 3 ∨ c = s1.heap.objs.size ∨ c = s1.heap.objs.size + 1 := by simpa using hcm
      have hle : s1.heap.objs.size ≤ c := by
        rcases e' with z | z | z | z | z
        · rw [z]; exact Nat.le_add_right _ _
        · rw [z]; exact Nat.le_add_right _ _
        · rw [z]; exact Nat.le_add_right _ _
        · rw [z]; exact Nat.le_refl _
        · rw [z]; exact Nat.le_add_right _ _
      exact I1.fpOk hle (I1.hok.fresh hle)
section
variable {G : Gv} {X : Cx} {W : WX} {Γ : List Sl} {N : List Str} {sc : Scope} {k : Nat} {R Ra Rb Rc : Rg} {pos p p1 p2 tpos : Pos} {a b c e o tg : Expr} {es : List Expr} {α β γ δ ρ : Type} [Enc α] [Enc β] {elts : List Expr} {kk : Nat}
theorem src_zipS {K : PySem.W.Frag} {q : Addr} {xs : List α} {x : Str} : Src G (Itzs K q x) [(V.ref q, enc xs)] (xs.zip (sgn x)) := by
  intro S H h i
  obtain ⟨q', vs, ev, s, hq, rs⟩ := rp_lst (ds := xs.map enc) (h _ List.mem_cons_self)
  cases ev
  have hl : vs.length = xs.length := by rw [rs.len, List.length_map]
  have hl2 : (sgn x).length = x.cps.size := by simp [sgn]
  rw [List.length_zip, hl2]
  refine ⟨fun hi => ⟨vs, SqL.of hq, by omega, by omega, by omega⟩, fun hi => ?_⟩
  have h1 : i < xs.length := by omega
  have h2 : i < x.cps.size := by omega
  refine ⟨⟨vs, vs[i], SqL.of hq, by simp [hl, h1], h2⟩, fun w H' ⟨T, y, c, e1, hT, e3, e4, e5⟩ => ?_⟩
  subst e1; subst e3
  have hx := e4 vs (SqL.of hq)
  obtain ⟨v, hv, rv⟩ := rs.get (i := i) (d := enc xs[i]) (by simp [h1])
  rw [hx] at hv
  cases hv
  refine ⟨(xs[i], ⟨#[c]⟩), List.getElem?_zip_eq_some.mpr ⟨by simp [h1], ?_⟩, .new hT, ?_⟩
  · unfold sgn
    rw [List.getElem?_map, Array.getElem?_toList, e5]; rfl
  · exact .tup (ds := [enc xs[i], enc (⟨#[c]⟩ : Str)]) (.inl (.inl upd_same)) (.cons (rv.ex (.new hT)) (.cons (.str _) .nil))
theorem es_zipS {m : Res (List α)} {n : Res Str} (C : Dx G X W N sc k) (ha : TV G X W Γ .av a m) (hb : TV G X W Γ Rb b n) (hg : glB sc "zip" = true) (hm : X.mg "zip" = none) (hst : starEach [a, b] X.env = (false, eval a X.env) :: starEach [b] X.env := by rfl) (hst2 : starEach [b] X.env = (false, eval b X.env) :: starEach [] X.env := by rfl) (hpl : (backTo pos (starEach [b] X.env)).any (·.1) = false := by rfl) :
    ES G X W Γ (.Tuple elts kk tpos) (.Call (.Name "zip" p) [a, b] [] pos) (m.bind fun x => n.bind fun y => .ok (x.zip (sgn y))) :=
  ⟨_, pi_zipS (gl_of C hg) hm (pa_cons (peW X a) (pa_cons (peW X b) pa_nil hst2) hst) hst hpl, fun H0 loc σ H Rk A h =>
    we2t ha hb A (p := fun xs H1 => ∀ J xt H', Ex G H1 H' → Src G J xt xs → (∀ p ∈ xt, Rp G (Av Γ H0 loc) H' p.1 p.2) → Rk J H') (fun r H1 H2 e q J xt H' e' => q J xt H' (e.trans e')) h fun x y v u H' ee A' r1 r2 z => by
      obtain ⟨q, vs, ev, s, hq, rs⟩ := rp_lst (ds := x.map enc) r1
      exact ⟨q, y, vs, by rw [ev, rp_str r2], SqL.of hq, z _ [(.ref q, enc x)] H' (.refl _) src_zipS (fun p hp => by
        rw [List.mem_singleton.mp hp]; rw [← ev]; exact r1)⟩⟩
end
end CS
namespace CS
open Enc (enc)
open PySem PySem.Spec PyProof.Rows L2
/-! ### data of a type that is told late -/
instance : Dec Int := ⟨fun d => match d with | .int i => some i | _ => none, fun d x h => by cases d <;> simp at h; subst h; rfl⟩
instance : Dec Str := ⟨fun d => match d with | .str i => some i | _ => none, fun d x h => by cases d <;> simp at h; subst h; rfl⟩
instance : Dec Bool := ⟨fun d => match d with | .bl i => some i | _ => none, fun d x h => by cases d <;> simp at h; subst h; rfl⟩
section
variable {A B C D : Type} [Enc A] [Enc B] [Enc C] [Enc D] [Dec A] [Dec B] [Dec C] [Dec D]
def dec2 : Dt → Option (A × B)
  | .tup [a, b] => (Dec.dec a).bind fun x => (Dec.dec b).map fun y => (x, y)
  | _ => none
instance : Dec (A × B) := ⟨dec2, fun d x h => by
  unfold dec2 at h
  split at h
  · rename_i a b
    obtain ⟨u, hu, h⟩ := Option.bind_eq_some_iff.mp h
    obtain ⟨v, hv, h⟩ := Option.map_eq_some_iff.mp h
    rw [Dec.ok a u hu, Dec.ok b v hv, ← h]; rfl
  · cases h⟩
def dec4 : Dt → Option (T4 A B C D)
  | .tup [a, b, c, d] => (Dec.dec a).bind fun x => (Dec.dec b).bind fun y => (Dec.dec c).bind fun z => (Dec.dec d).map fun w => ⟨x, y, z, w⟩
  | _ => none
instance : Dec (T4 A B C D) := ⟨dec4, fun d x h => by
  unfold dec4 at h
  split at h
  · rename_i a b c e
    obtain ⟨u, hu, h⟩ := Option.bind_eq_some_iff.mp h
    obtain ⟨v, hv, h⟩ := Option.bind_eq_some_iff.mp h
    obtain ⟨w, hw, h⟩ := Option.bind_eq_some_iff.mp h
    obtain ⟨y, hy, h⟩ := Option.map_eq_some_iff.mp h
    rw [Dec.ok a u hu, Dec.ok b v hv, Dec.ok c w hw, Dec.ok e y hy, ← h]; rfl
  · cases h⟩
end
section
variable {G : Gv} {X : Cx} {W : WX} {GX : Option (List Sl)} {T : Bool} {Γ : List Sl} {N : List Str} {sc : Scope} {k i j : Nat} {R Ra Rb Rc : Rg} {pos p apos cpos pos' p1 p2 : Pos} {a b c d e e1 e2 e3 o : Expr} {es : List Expr} {α β γ δ ρ S S1 κ : Type} [Enc α] [Enc β] [Enc γ] [Enc δ] [Enc ρ] {x f m : Str} {st : Stmt} {rest body orelse : List Stmt} {Gs : S → List Sl}
/-- an expression alone -/
theorem hl_expr {m : Res α} {M : Res (Fl S ρ)} (hx : SubX Γ GX) (he : TV G X W Γ Ra e m) (hr : HL G X W GX T Γ rest Gs M) (hs : swapsWith e none pos.line X.env = pure false := by rfl) : HL G X W GX T Γ (.Expr e pos :: rest) Gs (m.bind fun _ => M) := fun H0 loc σ H D A q pins t I =>
  (pss_cons (ps_expr (peW X e) hs) (pssW X rest)).run pins t σ H D I (he H0 loc σ H _ A (Po.mapI (q.bind.imp (fun a z v H' ee _ => hr H0 loc σ H' D (A.on ee) z) fun x z => Xw.of A hx z)))
/-- try: body / except .. / else: orelse, nothing raised; no break, no continue in the body -/
theorem hs_tryL {G1 : S1 → List Sl} {h0 : ExceptHandler} {hs : List ExceptHandler} {m : Res (Fl S1 ρ)} {M : S1 → Res (Fl S ρ)} (C : Dd G X W N sc k) (hb : HL G X.nox W0 none T Γ body G1 m) (ho : ∀ s, HL G X W GX T (G1 s) orelse Gs (M s)) :
    HS G X W GX T Γ (.Try body (h0 :: hs) orelse [] pos) Gs ((nox m).bind fun f => f.goL M) := fun H0 loc σ H D A q pins t I => by
  refine (ps_try_thru (pssW X.nox body) (pssW X orelse)).run pins t σ H D I ?_
  refine hb H0 loc σ H _ A (Po.imp (Po.nox (q' := XO G W0 none H0) q.bind) (fun f z => ?_) fun _ z => z)
  cases f with
  | nx s => exact fun loc' σ' H' A' => ho s H0 loc' σ' H' D A' z
  | rt r => exact z
  | bk s => exact z.elim
  | ct s => exact z.elim
/-- .. without else -/
theorem hs_try0 {h0 : ExceptHandler} {hs : List ExceptHandler} {m : Res (Fl S ρ)} (C : Dd G X W N sc k) (hb : HL G X.nox W0 none T Γ body Gs m) : HS G X W GX T Γ (.Try body (h0 :: hs) [] [] pos) Gs (nox m) := fun H0 loc σ H D A q pins t I =>
  (ps_try_thru0 (pssW X.nox body)).run pins t σ H D I (hb H0 loc σ H _ A (Po.nox (q' := XO G W0 none H0) q))

/-! ### d.setdefault(k, v) of one's own dict -/
section
variable [EKey κ] [DecidableEq κ] [Enc κ] [EKv κ]
def dset {κ α : Type} [DecidableEq κ] (kvs : List (κ × α)) (j : κ) (y : α) : List (κ × α) := match dget kvs j with
  | some _ => kvs
  | none => dput kvs j y
theorem isd_own {H0 : Bs} {loc : Nat → Addr} {σ : L2.St} {H : Hp} {kvs : List (κ × α)} (A : At G Γ H0 loc σ H) (h : Γ[i]? = some (.own (.d (dk kvs)))) : IsD H (loc i) := by
  obtain ⟨_, vs, hl, _⟩ := A.slot i _ h
  exact .inl ⟨vs, .inl hl⟩
/-- if d.setdefault(k, v) != e: .. that leaves the block -/
theorem hl_ifSetd [DecidableEq α] [PySem.W.Datum α] [Ec α] [Flat α] {kvs : List (κ × α)} {n : Res κ} {l : Res α} {l3 : List (κ × α) → Res α} {A : List (κ × α) → Res (Fl S ρ)} {M : List (κ × α) → Res (Fl S ρ)} {sa : List Stmt} {Γ' : List (κ × α) → List Sl} (C : Dx G X W N sc k) (hx : SubX Γ GX) (hx' : ∀ ys, SubX (Γ' ys) GX) (hN : N[i]? = some x) (hΓ : Γ[i]? = some (.own (.d (dk kvs)))) (hv : visB sc x = true)
    (h1 : TV G X W Γ Rb e1 n) (h2 : TV G X W Γ .av e2 l) (h3 : ∀ ys, TV G X W (Γ' ys) Rc e3 (l3 ys)) (hΓ' : ∀ ys : List (κ × α), Γ.set i (.own (.d (dk ys))) = Γ' ys) (hsame : Γ' kvs = Γ) (hdp : PySem.W.Datum.depth α ≤ 64) (ha : ∀ ys, HL G X W GX T (Γ' ys) sa Gs (A ys)) (hr : ∀ ys, HL G X W GX T (Γ' ys) rest Gs (M ys))
    (mm : M2 X (.Name x p) "setdefault" apos e1 e2 cpos) (hm : behindInMarks .NotEq e3 = false) (hd : (x == ("__debug__" : Str)) = false := by rfl) (hcd : (x == ("__classdict__" : Str)) = false := by rfl) :
    HL G X W GX T Γ (.If (.Compare (.Call (.Attribute (.Name x p) "setdefault" apos) [e1, e2] [] cpos) [.NotEq] [e3] p1) sa [] pos :: rest) Gs (n.bind fun j => l.bind fun y => chk (kvs.length < SZ) ((l3 (dset kvs j y)).bind fun z => if (!decide ((dget kvs j).getD y = z)) = true then (A (dset kvs j y)).bind Fl.cut else M (dset kvs j y))) := fun H0 loc σ H D At0 q pins t I => by
  obtain ⟨r, ho, hro⟩ := cmp_ne (α := α) C hdp
  refine (pss_cons (ps_if (pt_cmpR ho (pe_dsetd (pe_own C hN hv hd hcd) (peW X e1) (peW X e2) mm) (peW X e3) hm) (pssW X sa) pss_nil) (pssW X rest)).run pins t σ H D I ⟨_, At0.var hΓ, loc i, rfl, isd_own At0 hΓ, ?_⟩
  refine h1 H0 loc σ H _ At0 (Po.mapI (q.bind.imp (fun jk z v H1 ee1 r1 => ?_) fun x z => Xw.of At0 hx z))
  have A1 := At0.on ee1
  refine h2 H0 loc σ H1 _ A1 (Po.mapI (z.bind.imp (fun y z u H2 ee2 r2 => ?_) fun x z => Xw.of A1 hx z))
  have A2 := A1.on ee2
  obtain ⟨hz, z⟩ := z.chk
  obtain ⟨_, vs, hl, rs⟩ := A2.slot i _ hΓ
  have hlen : vs.length = kvs.length := by rw [rpk_len rs, List.length_map]
  -- what follows the call
  have fin : ∀ (w : V) (H3 : Hp), At G (Γ' (dset kvs jk y)) H0 loc σ H3 → Rp G Top H3 w (enc ((dget kvs jk).getD y)) → WE X e3 σ H3 fun u2 H4 => r w u2 H4 fun v5 H5 => ∃ b, v5 = .bl b ∧ if b = true then WSs X sa { D with nx := WSs X rest D } σ H5 else tNext { D with nx := WSs X rest D } σ H5 := fun w H3 B rw => by
    refine h3 _ H0 loc σ H3 _ B (Po.mapI (z.bind.imp (fun zz z u2 H4 ee4 r4 => ?_) fun x z => Xw.of B (hx' _) z))
    refine hro _ zz w u2 H4 _ (fun _ => False) (rw.ex ee4) r4.top ?_ ⟨_, rfl⟩
    have B4 := B.on ee4
    refine ⟨_, rfl, ?_⟩
    cases hb : !decide ((dget kvs jk).getD y = zz) with
    | true =>
      rw [hb, if_pos rfl] at z
      rw [if_pos rfl]
      refine ha _ H0 loc σ H4 _ B4 (z.bind.imp (fun g z => ?_) fun _ z => z)
      cases g with
      | nx s => exact z.elim
      | rt r => exact z
      | bk s => exact z
      | ct s => exact z
    | false =>
      rw [hb, if_neg Bool.false_ne_true] at z
      rw [if_neg Bool.false_ne_true]
      exact hr _ H0 loc σ H4 D B4 z
  refine ⟨vs, EKey.key jk, hl, EKv.kv _ _ _ _ _ (r1.ex ee2), by rw [hlen, sz_eq]; exact hz, fun w hw => ?_, fun hw => ?_⟩
  · cases hg : dget kvs jk with
    | none => rw [(rpk_get jk rs).2 hg] at hw; cases hw
    | some y0 =>
      obtain ⟨w2, hw2, rw2⟩ := (rpk_get jk rs).1 y0 hg
      rw [hw] at hw2
      cases hw2
      have e1 : dset kvs jk y = kvs := by unfold dset; rw [hg]
      exact fin w H2 (by rw [e1, hsame]; exact A2) (by rw [hg]; exact rw2.top)
  · have hg : dget kvs jk = none := by
      cases hg : dget kvs jk with
      | none => rfl
      | some y0 => obtain ⟨w2, hw2, _⟩ := (rpk_get jk rs).1 y0 hg; rw [hw] at hw2; cases hw2
    have e1 : dset kvs jk y = dput kvs jk y := by unfold dset; rw [hg]
    have tr := A2.trU hΓ (w := .dK (putK vs (EKey.key jk) u)) hl trivial
    have B := A2.mut (c' := .d (dk (dput kvs jk y))) hΓ (o := .dK (putK vs (EKey.key jk) u)) hl trivial trivial ⟨_, upd_same, rpk_put (r2.tr tr) (RpK.tr tr rs)⟩
    rw [hΓ'] at B
    exact fin u _ (by rw [e1]; exact B) (by rw [hg]; exact (r2.tr tr).top)
end
end
end CS
namespace CS
open Enc (enc)
open PySem PySem.Calls PyProof.Rows
open PySem.W (EachIs KeepsBut AllAlike Sortable KeyedOut alike dataLe dataKind SortsAt copyHeap sortingHeap)
/-! ### sorted(xs, key=f), the keys new lists -/
section
variable {prog : Program} {w : World} {A : Around} {E : Value → Shared → Prop} {s : Shared} {cp kl : Addr} {r : Bool} {us : List Value} {ep : Nat} {P : PySem.Fin → Shared → Prop} {qs : List PyData} {τ : Type}
/-- what stays true while the keys are asked: Iv of the state, Ky of a key that has come -/
structure KeyRun (prog : Program) (w : World) (A : Around) (f : Value) (cp kl : Addr) (us : List Value) (qs : List PyData) (Iv : τ → Shared → Prop) (Ky : τ → Value → PyData → Prop) : Prop where
  put : ∀ x t ks c u, Iv x t → t.heap.get? kl = some (seqObj "list" ks c) → Iv x { t with heap := t.heap.update kl (Obj.mapSeq (·.push u)) }
  turn : ∀ (i : Nat) (v : Value) (q : PyData) x t ks c ep, us[i]? = some v → qs[i]? = some q → Iv x t → t.heap.get? kl = some (seqObj "list" ks c) → t.heap.get? cp = some (seqObj "list" #[] ep) →
    wpAny (model prog w) A (call f [v]) (fun u t2 => ∃ y, Iv y t2 ∧ Ky y u q ∧ (∀ v d, Ky x v d → Ky y v d) ∧ t2.heap.get? kl = some (seqObj "list" ks c) ∧ t2.heap.get? cp = some (seqObj "list" #[] ep)) (fun _ _ => False) t
  read : ∀ x t v d, Iv x t → Ky x v d → ∃ as, Reads t.heap v d as
def freed (h : Heap) (a : Addr) : Heap := h.update a fun o => { o with data := .freed }
theorem freed_none {h : Heap} {a : Addr} : (freed h a).get? a = none := by
  cases e : (freed h a).get? a with
  | none => rfl
  | some o =>
    obtain ⟨h1, h2⟩ := Heap.get?_some_iff.mp e
    unfold freed at h1
    cases h with
    | mk objs l =>
      simp only [Heap.update, Array.getElem?_modify, if_true] at h1
      cases q : objs[a]? with
      | none => rw [q] at h1; cases h1
      | some x => rw [q] at h1; cases h1; cases h2
theorem keys_made {f : Value} {Iv : τ → Shared → Prop} {Ky : τ → Value → PyData → Prop} (KR : KeyRun prog w A f cp kl us qs Iv Ky) {x0 : τ} (i0 : Iv x0 s) (okl : s.heap.get? kl = some (seqObj "list" #[] 0)) (ocp : s.heap.get? cp = some (seqObj "list" #[] ep)) (hne : kl ≠ cp)
    (hl : qs.length = us.length) (hz : us.length ≤ sizeLine) (ha : AllAlike qs) (hs : Sortable qs) (hu : ∀ d, d ∈ qs → A.units + d.depth < cLine)
    (fin : ∀ x (t : Shared) (g : Heap) tk out c, Iv x t → (∀ b o, b ≠ cp → b ≠ kl → t.heap.get? b = some o → g.get? b = some o) → g.get? cp = some (seqObj "list" (List.toArray out) c) → KeyedOut r qs us out → P (.done (.ret .none)) { t with heap := g, toks := tk }) :
    wpAny (model prog w) A (ksk_rest cp f r us.toArray ep (.ref kl)) P E s := by
  unfold ksk_rest
  apply wpAny_bind
  apply wpAny_rule
  first
    | rw [List.forIn_toArray]
    | (rw [← Array.forIn_toList]; simp only [List.toList_toArray])
  let J : Nat → Shared → Prop := fun i t => ∃ x ks c, Iv x t ∧ t.heap.get? kl = some (seqObj "list" ks c) ∧ t.heap.get? cp = some (seqObj "list" #[] ep) ∧ EachIs (fun u q => Ky x u q) ks.toList (qs.take i)
  have j0 : J 0 s := ⟨x0, #[], 0, i0, okl, ocp, by rw [List.take_zero]; exact EachIs.nil⟩
  apply wpAny_bind
  refine ksk_fold J us 0 s j0 ?one ?all
  case one =>
    intro j y t hx hj
    rw [Nat.zero_add] at hj ⊢
    obtain ⟨x, ks, c, iv, og, oc, hk⟩ := hj
    have hlt : j < qs.length := by rw [hl]; exact (List.getElem?_eq_some_iff.mp hx).1
    have hq : qs[j]? = some qs[j] := List.getElem?_eq_getElem hlt
    have hsz : ks.size ≤ us.length := by
      have e := hk.length
      rw [Array.length_toList, List.length_take] at e
      omega
    apply wpAny_bind
    apply wpAny_attempt
    refine wpAny_mono (KR.turn j y _ x t ks c ep hx hq iv og oc) (fun u t2 hu2 => ?_) fun _ _ no => no.elim
    obtain ⟨x2, iv2, ky, up, okl2, ocp2⟩ := hu2
    try dsimp only
    have upd1 := Heap.SameBut.update t2.heap kl (Obj.mapSeq (·.push u))
    obtain ⟨c3, hc3⟩ : ∃ c3, (t2.heap.update kl (Obj.mapSeq (·.push u))).get? kl = some (seqObj "list" (ks.push u) c3) := ⟨_, get?_update_seq okl2 (·.push u)⟩
    apply wpAny_bind
    refine listUpdate_at okl2 rfl ?_ (Nat.le_trans hsz hz) (Nat.le_trans (Nat.le_of_eq (Array.size_push ..)) (Nat.succ_le_succ (Nat.le_trans hsz hz)))
    refine wpAny_pure ⟨rfl, x2, ks.push u, c3, KR.put x2 t2 ks c u iv2 okl2, hc3, (upd1.2 cp hne.symm).trans ocp2, ?_⟩
    have e1 : qs.take (j + 1) = qs.take j ++ [qs[j]] := by rw [List.take_add_one, hq]; rfl
    have e2 : (ks.push u).toList = ks.toList ++ [u] := by simp
    rw [e1, e2]
    exact PySem.W.each_snoc (R := fun (v : Value) (d : PyData) => Ky x2 v d) ky (hk.mono fun v d z => up v d z)
  case all =>
    intro t hj
    obtain ⟨x, ks, c, iv, og, oc, hk⟩ := hj
    rw [Nat.zero_add, List.take_of_length_le (by omega)] at hk
    have hk2 : EachIs (fun v k => ∃ as, Reads t.heap v k as) ks.toList qs := hk.mono fun v k z => KR.read x t v k iv z
    have hsz : ks.size = us.length := by
      have e := hk2.length
      rw [Array.length_toList] at e
      omega
    try dsimp only
    apply wpAny_bind
    refine listItems_at og rfl ?_
    have fs := Heap.SameBut.update t.heap kl fun o : Obj => { o with data := .freed }
    have nw : (freed t.heap kl).get? kl = none := freed_none
    have kp : KeepsBut cp (freed t.heap kl) t.heap := fun b o _ e => by
      by_cases hb : b = kl
      · rw [hb, nw] at e; cases e
      · exact (fs.2 b hb).symm.trans e
    exact PySem.W.keyH_end (κ := dataKind t.heap qs) (h₁ := freed t.heap kl) kp nw og oc hne (SortsAt.data (s := t) hk2 ha hs hu) hsz hz fun g3 tk3 c3 k3 n3 =>
      fin x t g3 tk3 _ c3 iv (fun b o h1 h2 e => k3 b o h1 ((fs.2 b h2).trans e)) n3 ⟨t.heap, ks.toList, ha, rfl, hk2⟩
/-- the run of a sort by f's keys, from the list's own copy cp -/
theorem keys_tree {f : Value} {n : Nat} {Iv : τ → Shared → Prop} {Ky : τ → Value → PyData → Prop} {x0 : τ} (ho : s.heap.get? cp = some (seqObj "list" us.toArray n)) (hl : qs.length = us.length) (hz : us.length ≤ sizeLine) (ha : AllAlike qs) (hs : Sortable qs) (hu : ∀ d, d ∈ qs → A.units + d.depth < cLine)
    (hkl : kl = s.heap.objs.size + 1) (KR : KeyRun prog w A f cp kl us qs Iv Ky) (i0 : ∀ g : Heap, (∀ b o, b ≠ cp → s.heap.get? b = some o → g.get? b = some o) → (∃ e, g.get? cp = some (seqObj "list" #[] e)) → g.get? kl = some (seqObj "list" #[] 0) → Iv x0 { s with heap := g })
    (fin : ∀ x (t : Shared) (g : Heap) tk out c, Iv x t → (∀ b o, b ≠ cp → b ≠ kl → t.heap.get? b = some o → g.get? b = some o) → g.get? cp = some (seqObj "list" (List.toArray out) c) → KeyedOut r qs us out → P (.done (.ret .none)) { t with heap := g, toks := tk }) :
    wpAny (model prog w) A (ksk_tree cp f r) P E s := by
  have hcp : cp < s.heap.objs.size := Heap.lt_size ho
  obtain ⟨ep, o1⟩ : ∃ ep, (s.heap.update cp (Obj.mapSeq fun _ => (#[] : Array Value))).get? cp = some (seqObj "list" #[] ep) := ⟨_, get?_update_seq ho fun _ => #[]⟩
  have hk2 : ((s.heap.update cp (Obj.mapSeq fun _ => (#[] : Array Value))).push (seqObj "tuple" us.toArray 0)).objs.size = kl := by rw [size_push', Heap.size_update, hkl]
  unfold ksk_tree
  apply wpAny_bind; refine listItems_at ho rfl ?_
  apply wpAny_bind; refine listUpdate_at ho rfl ?_ (by rw [List.size_toArray]; exact hz) (Nat.zero_le _)
  apply wpAny_bind; refine seqEpoch_at o1 rfl ?_
  apply wpAny_bind; refine wpAny_newTuple ?_ (by show us.length ≤ _; exact hz)
  apply wpAny_bind; refine wpAny_newList ?_ (Nat.zero_le _)
  apply wpAny_holding
  have e3 : (((s.heap.update cp (Obj.mapSeq fun _ => (#[] : Array Value))).push (seqObj "tuple" us.toArray 0)).push (seqObj "list" #[] 0)).get? kl = some (seqObj "list" #[] 0) := by
    rw [← hk2]; exact Heap.get?_push_size _ rfl
  have e2 := Heap.get?_push_of_some (seqObj "list" #[] 0) (Heap.get?_push_of_some (seqObj "tuple" us.toArray 0) o1)
  show wpAny (model prog w) A (ksk_rest cp f r us.toArray ep (.ref ((s.heap.update cp (Obj.mapSeq fun _ => (#[] : Array Value))).push (seqObj "tuple" us.toArray 0)).objs.size)) P E _
  rw [hk2]
  refine keys_made KR (x0 := x0) (i0 _ (fun b o hb e => ?_) ⟨ep, e2⟩ e3) e3 e2 (by rw [hkl]; exact Nat.ne_of_gt (Nat.lt_succ_of_lt hcp)) hl hz ha hs hu fin
  exact Heap.get?_push_of_some _ (Heap.get?_push_of_some _ (by rw [Heap.get?_update_ne _ _ _ _ hb]; exact e))
end
section
variable {prog : Program} {w : World} {A : Around} {E : Value → Shared → Prop} {s : Shared} {β τ : Type} {us : List Value} {bs : List β} {R : Value → β → Prop}
/-- sorted(l, key=f) -/
theorem sorted_newkeys {l fa : Addr} {Q : Value → Shared → Prop} {Iv : τ → Shared → Prop} {Ky : τ → Value → PyData → Prop} {x0 : τ} (key : β → PyData) (hl : s.heap.IsList l us.toArray) (e : EachIs R us bs) (ha : AllAlike (bs.map key)) (hs : Sortable (bs.map key)) (hz : bs.length ≤ sizeLine)
    (hu : ∀ x, x ∈ bs → A.units + 2 + (key x).depth < cLine) (KR : KeyRun prog w A.in1.in1 (.ref fa) (s.heap.objs.size + 1) (s.heap.objs.size + 3) us (bs.map key) Iv Ky)
    (i0 : ∀ g : Heap, (∀ b o, s.heap.get? b = some o → g.get? b = some o) → Iv x0 { s with heap := g })
    (fin : ∀ x (t : Shared) (g : Heap) tk out c, Iv x t → (∀ b o, b ≠ s.heap.objs.size + 1 → b ≠ s.heap.objs.size + 3 → t.heap.get? b = some o → g.get? b = some o) → g.get? (s.heap.objs.size + 1) = some (seqObj "list" (List.toArray out) c) → EachIs R out (bs.mergeSort (dataLe false key)) →
      Q (.ref (s.heap.objs.size + 1)) { t with heap := g, toks := tk }) :
    wpAny (model prog w) A (call (.builtin "sorted") [.ref l] [(Str.ofString "key", .ref fa)]) Q E s := by
  refine PySem.W.sorted_of_sort hl (by rw [e.length]; exact hz) (ksk_s1 _ _) (fun _ => ksk_l1 _ _) fun E' => ?_
  rw [ksk_t1]
  have sz : (copyHeap s.heap us).objs.size = s.heap.objs.size + 2 := by
    unfold PySem.W.copyHeap
    rw [size_push', Heap.size_update, size_push']
  refine keys_tree (qs := bs.map key) (kl := s.heap.objs.size + 3) (s := { s with heap := copyHeap s.heap us }) (PySem.W.copyHeap_at s.heap us) (by rw [List.length_map]; exact e.length.symm) (by rw [e.length]; exact hz) ha hs (PySem.W.bound_map (A := A.in1.in1) hu)
    (by show _ = (copyHeap s.heap us).objs.size + 1; rw [sz]) KR (fun g kp _ _ => i0 g fun b o q => kp b o (Nat.ne_of_lt (Nat.lt_succ_of_lt (Heap.lt_size q))) (PySem.W.copyHeap_old q)) fun x t g tk out c iv kp hg ko => ⟨rfl, ?_⟩
  exact fin x t g tk out c iv kp hg (PySem.W.keyedOut_each key ko e)
end
end CS
namespace CS
open Enc (enc)
open PySem PySem.Spec PyProof.Rows L2
/-! ### a lambda of one parameter (that its own comprehension holds) and one captured name -/
section
variable {M : Model} {A : Around} {E : Value → Shared → Prop} {s : Shared}
theorem env_one {scope : Scope} {globals : Addr} {clo : List (Str × Addr)} {p q : Str} {v : Value} {qual : Str} {func : Option Addr} {code : Value} {builtins : Addr} {Q : Env → Shared → Prop} (hk : scope.kind = .function) (hn : scope.names = [(p, .cell), (q, .free)])
    (hQ : ∀ h', h'.Ns s.heap.objs.size (fun _ => none) → h'.IsCell (s.heap.objs.size + 1) (some v) → (∀ b o, s.heap.get? b = some o → h'.get? b = some o) → Q (newEnv scope s.heap.objs.size globals ((p, s.heap.objs.size + 1) :: clo) qual func code none builtins) { s with heap := h' }) :
    wpAny M A (newFunctionEnv scope globals clo [(p, v)] qual func code none builtins) Q E s := by
  simp only [newFunctionEnv, Option.isSome_none, Bool.false_eq_true, if_false]
  apply wpAny_bind
  apply wpAny_alloc
  apply wpAny_bind
  refine wpAny_layCells _ (fun name kind cells => by cases hkc : kind == NameKind.cell <;> simp [hkc]) scope.names clo _ _ ?_
  rw [hn]
  have sz : (s.heap.push { cls := .type "frame", data := .dict #[] }).objs.size = s.heap.objs.size + 1 := Heap.size_push ..
  have ec : cellsFrom (s.heap.push { cls := .type "frame", data := .dict #[] }).objs.size [(p, NameKind.cell), (q, NameKind.free)] clo = (p, s.heap.objs.size + 1) :: clo := by
    rw [sz]; rfl
  have ep : pushCells (s.heap.push { cls := .type "frame", data := .dict #[] }) [(p, NameKind.cell), (q, NameKind.free)] = (s.heap.push { cls := .type "frame", data := .dict #[] }).push { cls := .type "cell", data := .cell none } := rfl
  rw [ec, ep]
  rw [List.forIn_cons]
  apply wpAny_bind
  apply wpAny_bind
  apply wpAny_bind
  have hc0 : ((s.heap.push { cls := .type "frame", data := .dict #[] }).push { cls := .type "cell", data := .cell none }).IsCell (s.heap.objs.size + 1) none := ⟨_, by rw [← sz]; exact Heap.get?_push_size _ rfl, rfl⟩
  refine wpAny_storeName_cell (c := s.heap.objs.size + 1) (v₀ := none) hk ?_ ?_ hc0 fun h' c' sb => ?_
  · show scope.names.lookup p = some .cell
    rw [hn, List.lookup_cons, beq_self_eq_true]
  · show List.lookup p ((p, s.heap.objs.size + 1) :: clo) = _
    rw [List.lookup_cons, beq_self_eq_true]
  · apply wpAny_pure
    show wpAny M A (forIn ([] : List (Str × Value)) PUnit.unit _) _ _ _
    rw [List.forIn_nil]
    refine wpAny_pure (wpAny_pure (hQ h' ?_ c' fun b o e => ?_))
    · exact ((Heap.Ns.new s.heap (.type "frame")).keeps (fun b o e => Heap.get?_push_of_some _ e)).sameBut sb (Nat.ne_of_lt (Nat.lt_succ_self _))
    · refine sb.extBut b o (Nat.ne_of_lt (Nat.lt_succ_of_lt (Heap.lt_size e))) (Heap.get?_push_of_some _ (Heap.get?_push_of_some _ e))
end
/-- the context of its body, at its entry -/
def lcx (X : Cx) (N : List Str) (A : Around) (outer : List Env) (s : Shared) (H : Hp) (env : Env) : Cx where
  prog := X.prog
  w := X.w
  K := X.K
  mg := X.mg
  base := X.base
  A := A.deeper env
  N := N
  s_0 := s
  H_0 := H
  env := env
  outer := outer
  stack := env :: outer
  ex := []
  calm := true
  fn := fun _ => false
  pn := []
  xe := fun e s' => wpAny (model X.prog X.w) (A.deeper env) (leaving env e) (fun _ s'' => L2.CX X.prog X.w outer H s (fun _ _ _ => False) e s'') (fun e' s'' => L2.CX X.prog X.w outer H s (fun _ _ _ => False) e' s'') s'
theorem dx_lam {G : Gv} {X : Cx} {N : List Str} {A : Around} {outer : List Env} {s : Shared} {H : Hp} {env : Env} {k : Nat} {sc : Scope} (hK : X.K = G.K) (hsc : env.scope = sc) (hf : env.frame = some env.locals) (hr : Room k (A.deeper env)) (nd : N.Nodup) : Dx G (lcx X N A outer s H env) W0 N sc k where
  n := rfl
  sc := hsc
  K := hK
  calm := rfl
  room := hr
  tk := takes_of (E := fun _ _ _ => False) rfl hf rfl rfl
  nd := nd
/-- the lambda's own words -/
structure LamW (scope : Scope) (p q : Str) : Prop where
  kind : scope.kind = .function
  co : scope.isCoroutine = false
  gen : scope.isGenerator = false
  names : scope.names = [(p, .cell), (q, .free)]
  ne : p ≠ q
section
variable {X : Cx} {pins : List (Addr × Obj)} {σ : L2.St} {H : Hp} {s : Shared} {scope : Scope} {p q : Str} {f c' : Addr} {pm ctv : Value} {params : Arguments} {body : Expr} {N : List Str}
abbrev lenv (X : Cx) (scope : Scope) (p : Str) (L f c' : Addr) : Env := newEnv scope L mainGlobals ((p, L + 1) :: cloFrom X.env.cells scope.names []) (X.env.qual ++ "<lambda>" ++ ".<locals>.") (some f) (.ref c') none builtinsNs
theorem lam_inv {A : Around} {h' : Heap} {vp vq : V} {up : Value} {iq : Nat} {rest : List Str} (I : Inv X pins σ H s) (L : LamW scope p q) (hN : N = p :: q :: rest) (nd : N.Nodup) (hd : A.handled = none) (e0 : Env0 X.prog X.w X.K X.mg X.base A X.stack s H)
    (kq : X.env.scope.names.lookup q = some .cell) (nq : X.N[iq]? = some q) (sq : σ[iq]? = some (some vq)) (rp : RelV vp up)
    (hns : h'.Ns s.heap.objs.size fun _ => none) (hc : h'.IsCell (s.heap.objs.size + 1) (some up)) (kp : ∀ b o, s.heap.get? b = some o → h'.get? b = some o) :
    Inv (lcx X N A X.stack s H (lenv X scope p s.heap.objs.size f c')) [] (some vp :: some vq :: List.replicate rest.length none) H { s with heap := h' } := by
  obtain ⟨m, hn, hl⟩ := I.loc
  obtain ⟨uq, rq, lq⟩ := hl iq q vq nq sq (.inr (.inl kq))
  obtain ⟨cq, eq1, eq2⟩ : ∃ c, X.env.cells.lookup q = some c ∧ s.heap.IsCell c (some uq) := by
    rcases lq with ⟨k', _⟩ | ⟨_, c, e, z⟩
    · have k' : X.env.scope.names.lookup q = some .local := k'
      rw [kq] at k'; cases k'
    · exact ⟨c, e, z⟩
  have clo : cloFrom X.env.cells scope.names [] = [(q, cq)] := by
    rw [L.names]
    have e : (X.env.cells.lookup q).getD 0 = cq := by rw [eq1]; rfl
    show cloFrom X.env.cells [(q, NameKind.free)] [] = _
    show [(q, (X.env.cells.lookup q).getD 0)] = _
    rw [e]
  have cells : (lenv X scope p s.heap.objs.size f c').cells = [(p, s.heap.objs.size + 1), (q, cq)] := by
    show (p, s.heap.objs.size + 1) :: cloFrom X.env.cells scope.names [] = _
    rw [clo]
  have lkp : List.lookup p [(p, s.heap.objs.size + 1), (q, cq)] = some (s.heap.objs.size + 1) := by rw [List.lookup_cons, beq_self_eq_true]
  have lkq : List.lookup q [(p, s.heap.objs.size + 1), (q, cq)] = some cq := by
    rw [List.lookup_cons, beq_false_of_ne (fun z => L.ne z.symm), List.lookup_cons, beq_self_eq_true]
  have two : ∀ {y c}, (lenv X scope p s.heap.objs.size f c').cells.lookup y = some c → (y = p ∧ c = s.heap.objs.size + 1) ∨ (y = q ∧ c = cq) := fun {y c} h => by
    rw [cells, List.lookup_cons] at h
    cases hb : y == p with
    | true => rw [hb] at h; exact .inl ⟨beq_iff_eq.mp hb, (Option.some.inj h).symm⟩
    | false =>
      rw [hb, List.lookup_cons] at h
      cases hb2 : y == q with
      | true => rw [hb2] at h; exact .inr ⟨beq_iff_eq.mp hb2, (Option.some.inj h).symm⟩
      | false => rw [hb2] at h; cases h
  have cqlt : cq < s.heap.objs.size := eq2.lt
  have noA : ∀ b : Addr, b ∉ (lcx X N A X.stack s H (lenv X scope p s.heap.objs.size f c')).ex := fun b z => absurd (show b ∈ ([] : List Addr) from z) (by simp)
  have nfr : H (s.heap.objs.size + 1) = none := I.hok.fresh (Nat.le_succ _)
  refine ⟨⟨e0.mod, L.kind, rfl, rfl, Nat.le_refl _, fun x y c h1 h2 => ?_, fun y hy => ?_, fun y c z _ => (Bool.false_ne_true z).elim, fun _ => hd, Around.frames_deeper e0.frames, .inr ⟨rfl, rfl⟩, fun b z => absurd z (noA b), e0.bs, e0.bsz, fun b _ _ => noA b, fun b z => absurd z (noA b), e0.funs, e0.frf⟩,
    rfl, e0.bare, Un.kept kp, ⟨_, hns, fun i y v h1 h2 h3 => ?_⟩, fun y c h => ?_, I.hok.fresh (Nat.le_refl _), fun y c h => ?_, fun x hx => absurd (show x ∈ ([] : List (Addr × Obj)) ++ [] from hx) (by simp), I.hok.kept kp, ?_⟩
  · rcases two h1 with ⟨a1, a2⟩ | ⟨a1, a2⟩ <;> rcases two h2 with ⟨b1, b2⟩ | ⟨b1, b2⟩
    · rw [a1, b1]
    · rw [a2] at b2; rw [← b2] at cqlt; exact absurd cqlt (Nat.not_lt.mpr (Nat.le_succ _))
    · rw [b2] at a2; rw [← a2] at cqlt; exact absurd cqlt (Nat.not_lt.mpr (Nat.le_succ _))
    · rw [a1, b1]
  · have hy : scope.names.lookup y = some .cell ∨ scope.names.lookup y = some .free := hy
    rw [L.names, List.lookup_cons, List.lookup_cons] at hy
    show ∃ c, (lenv X scope p s.heap.objs.size f c').cells.lookup y = some c
    rw [cells]
    cases hb : y == p with
    | true => exact ⟨_, by rw [beq_iff_eq.mp hb]; exact lkp⟩
    | false =>
      rw [hb] at hy
      cases hb2 : y == q with
      | true => exact ⟨_, by rw [beq_iff_eq.mp hb2]; exact lkq⟩
      | false => rw [hb2] at hy; rcases hy with z | z <;> cases z
  · have h1 : N[i]? = some y := h1
    rw [hN] at h1
    cases i with
    | zero =>
      cases Option.some.inj h1
      cases Option.some.inj (Option.some.inj h2)
      refine ⟨up, rp, .inr ⟨.inl ?_, _, (congrArg (List.lookup p) cells).trans lkp, hc⟩⟩
      show scope.names.lookup p = _
      rw [L.names, List.lookup_cons, beq_self_eq_true]
    | succ i => cases i with
      | zero =>
        cases Option.some.inj h1
        cases Option.some.inj (Option.some.inj h2)
        refine ⟨uq, rq, .inr ⟨.inr ?_, _, (congrArg (List.lookup q) cells).trans lkq, eq2.keeps kp⟩⟩
        show scope.names.lookup q = _
        rw [L.names, List.lookup_cons, beq_false_of_ne (fun z => L.ne z.symm), List.lookup_cons, beq_self_eq_true]
      | succ i =>
        have h2 : (List.replicate rest.length (none : Option V))[i]? = some (some v) := h2
        rw [List.getElem?_replicate] at h2
        split at h2 <;> cases h2
  · rcases two h with ⟨_, a2⟩ | ⟨_, a2⟩
    · rw [a2]; exact ⟨_, hc⟩
    · rw [a2]; exact ⟨_, eq2.keeps kp⟩
  · rcases two h with ⟨_, a2⟩ | ⟨_, a2⟩
    · rw [a2]; exact nfr
    · rw [a2]; exact I.freeC q cq eq1
  · show _ = N.length
    rw [hN]; simp
/-- it is called: its body runs -/
theorem lam_call {A : Around} {k : Nat} {vp vq : V} {up : Value} {iq : Nat} {rest : List Str} {Q : VK} (I : Inv X pins σ H s) (L : LamW scope p q) (hN : N = p :: q :: rest) (nd : N.Nodup) (hr : Room (k + 1) A) (e0 : Env0 X.prog X.w X.K X.mg X.base A X.stack s H)
    (of : s.heap.get? f = some (PySem.W.kla_obj "<lambda>" (X.env.qual ++ "<lambda>") params body scope (cloFrom X.env.cells scope.names []) pm c' ctv)) (oc : H c' = some (LamX.CodeO c' (X.env.qual ++ "<lambda>")))
    (kq : X.env.scope.names.lookup q = some .cell) (nq : X.N[iq]? = some q) (sq : σ[iq]? = some (some vq)) (rp : RelV vp up)
    (hbind : ∀ u : Value, bindArgs (PySem.W.kla_fn "<lambda>" (X.env.qual ++ "<lambda>") params body scope (cloFrom X.env.cells scope.names []) pm (.ref c') ctv) ⟨[u], []⟩ = pure [(p, u)])
    (hb : Room k (A.deeper (lenv X scope p s.heap.objs.size f c')) → WE (lcx X N A X.stack s H (lenv X scope p s.heap.objs.size f c')) body (some vp :: some vq :: List.replicate rest.length none) H Q) :
    wpAny (model X.prog X.w) A (call (.ref f) [up]) (fun w s' => CE X.stack X.prog X.w H s Q w s') (fun _ _ => False) s := by
  obtain ⟨⟨oc1, vs1, t1, h1, h2, h3⟩, _, _⟩ := I.hok c' _ oc
  have lim : s.heap.NoLimit := I.nolimit
  refine wpAny_call (codeAny_mono (R := CR (L2.CX X.prog X.w) X.stack X.prog X.w H s Q fun _ _ _ => False) ?_ fun r s' hq => ?_)
  · refine PySem.W.kla_callFunE hr.depth of rfl L.co L.gen rfl ⟨c', oc1, vs1, t1, rfl, h1, h2, h3⟩ ?_
    rw [hbind]
    refine wpAny_pure (env_one L.kind L.names fun h' hns hc kp => ⟨lim.keeps kp, ?_⟩)
    have J := lam_inv (f := f) (c' := c') (N := N) (rest := rest) I L hN nd hr.hd e0 kq nq sq rp hns hc kp
    refine PySem.W.kla_codeExpr (wpAny_mono (hb (hr.deeper _) [] _ J) (fun v s' hq => ?_) fun e s' hq => hq)
    obtain ⟨x, H', J', rv, q⟩ := hq
    exact ⟨x, H', J'.os, J'.bare, J'.base, J'.hok, rv, q⟩
  · cases r with
    | error e =>
      obtain ⟨a, B, H', cls, d, _, _, _, _, _, _, _, no⟩ := hq
      exact no.elim
    | ok fl =>
      cases fl with
      | ret u => exact hq
      | next => exact hq.elim
      | brk => exact hq.elim
      | cont => exact hq.elim
end
end CS
namespace CS
open Enc (enc)
open PySem PySem.Spec PyProof.Rows L2
open PySem.W (EachIs AllAlike Sortable alike dataLe)
def keysR {α : Type} (kf : α → Res (List Int)) : List α → Res (List (List Int))
  | [] => .ok []
  | x :: xs => (kf x).bind fun k => (keysR kf xs).bind fun ks => .ok (k :: ks)
/-- sorted(xs, key=kf) -/
def sortK {α : Type} (kf : α → Res (List Int)) (xs : List α) : Res (List α) := (nox (keysR kf xs)).bind fun ks => okIf (xs.length ≤ SZ) (((xs.zip ks).mergeSort (fun a b => decide (a.2 ≤ b.2))).map (·.1))
theorem keysR_zip {α : Type} {kf : α → Res (List Int)} : ∀ {xs : List α} {ks : List (List Int)}, keysR kf xs = .ok ks → xs.length = ks.length ∧ ∀ p ∈ xs.zip ks, kf p.1 = .ok p.2
  | [], ks, h => by cases h; exact ⟨rfl, fun p hp => absurd hp (by simp)⟩
  | x :: xs, ks, h => by
    unfold keysR at h
    cases hk : kf x with
    | ok k =>
      rw [hk, Res.ok_bind] at h
      cases hr : keysR kf xs with
      | ok r =>
        rw [hr, Res.ok_bind] at h
        cases h
        obtain ⟨h1, h2⟩ := keysR_zip hr
        refine ⟨by simp [h1], fun p hp => ?_⟩
        rw [List.zip_cons_cons] at hp
        rcases List.mem_cons.mp hp with e | hp
        · rw [e]; exact hk
        · exact h2 p hp
      | exc e => rw [hr] at h; cases h
      | err => rw [hr] at h; cases h
    | exc e => rw [hk] at h; cases h
    | err => rw [hk] at h; cases h
theorem inv_same {X : Cx} {pins : List (Addr × Obj)} {σ : L2.St} {H : Hp} {s t : Shared} (I : Inv X pins σ H s) (hh : t.heap = s.heap) (ho : t.os = s.os) (hb : AllBare t.gens) : Inv X pins σ H t := by
  obtain ⟨a1, a2, a3, a4, a5, a6, a7, a8, a9, a10, a11⟩ := I
  rw [← hh] at a4 a5 a6 a9 a10
  exact ⟨a1, ho.trans a2, hb, a4, a5, a6, a7, a8, a9, a10, a11⟩
theorem fs_not {X : Cx} {pins : List (Addr × Obj)} {σ : L2.St} {H : Hp} {s : Shared} {b : Addr} (I : Inv X pins σ H s) (h1 : b ≠ X.env.locals) (h2 : b ∉ X.fs) : b ∉ frs X.stack := fun z => (List.mem_cons.mp (I.stkSub _ z)).elim h1 h2
theorem each_strs {us : List Value} : ∀ {xs : List Str} {ks : List (List Int)}, xs.length = ks.length → Vals (xs.map V.str) us → EachIs (fun u (p : Str × List Int) => RelV (.str p.1) u) us (xs.zip ks) := by
  induction us with
  | nil => intro xs ks hl r; cases xs with
    | nil => exact .nil
    | cons x xs => cases r
  | cons u us ih => intro xs ks hl r; cases xs with
    | nil => cases r
    | cons x xs => cases ks with
      | nil => cases hl
      | cons k ks => cases r with
        | cons r rr => exact .cons r (ih (Nat.succ.inj hl) rr)
theorem vals_each {out : List Value} : ∀ {ps : List (Str × List Int)}, EachIs (fun u (p : Str × List Int) => RelV (.str p.1) u) out ps → Vals ((ps.map (·.1)).map V.str) out
  | _, .nil => .nil
  | _, .cons h t => .cons h (vals_each t)
/-- a lambda is made: what is new in the heap -/
theorem lam_new {G : Gv} {X : Cx} {pins : List (Addr × Obj)} {σ : L2.St} {H : Hp} {s : Shared} {T : List (Addr × Str)} {c P : Addr} {params : Arguments} {body : Expr} {scope : Scope} {pos : Pos} {E : Value → Shared → Prop} {Q : Value → Shared → Prop} (I : Inv X pins σ H s) (hT : ∀ H, G.tabs H ↔ LamX.Tabs T H) (ht : G.tabs H) (TB : LamX.TabB X.base X.mg c P) (hcode : X.env.code = .ref c)
    (hm : (P, X.env.qual ++ "<lambda>") ∈ T) (hu : ∀ p ∈ T, p.1 = P → p.2 = X.env.qual ++ "<lambda>") (hdef : defaultsOf params X.env = ([], [])) (hfree : ∀ y ∈ scope.names, y.2 = .free → ∃ c, X.env.cells.lookup y.1 = some c)
    (go : ∀ (f c' : Addr) (pm ctv : Value) (H1 : Hp) (t : Shared), Inv X pins σ H1 t → Ex G H H1 →
      t.heap.get? f = some (PySem.W.kla_obj "<lambda>" (X.env.qual ++ "<lambda>") params body scope (cloFrom X.env.cells scope.names []) pm c' ctv) → H1 f = none → f ∉ frs X.stack → H1 c' = some (LamX.CodeO c' (X.env.qual ++ "<lambda>")) → Q (.ref f) t) :
    wpAny (model X.prog X.w) X.A (eval (.Lambda params body scope pos) X.env) Q E s := by
  have tb := (hT H).mp ht
  obtain ⟨ps, hP, tri, old⟩ := tb _ hm
  have inb : s.heap.BuiltinsAt X.mg P := TB.bm.keeps I.bk
  have cP : s.heap.get? P = some { cls := .none, data := .fields ps } := I.hok P _ hP
  have far : ∀ f, s.heap.objs.size ≤ f → f ∉ frs X.stack := fun f hf z => (List.mem_cons.mp (I.stkSub _ z)).elim (fun e => by
    have q := I.lt
    rw [← e] at q
    exact absurd (Nat.lt_of_lt_of_le q hf) (Nat.lt_irrefl _)) (I.nofs hf)
  refine PySem.W.kla_eval hdef ?_
  cases hc : codeAmong pos ps.toList with
  | some cv =>
    obtain ⟨c', ec, hco⟩ := old pos cv hc
    subst ec
    refine PySem.W.kla_makeFunctionHit (mg := X.mg) (c := c) (P := P) (ps := ps) (closure_ok hfree) I.ok.glob (I.mod.glob.keeps I.bk) hcode (TB.code.keeps I.bk) cP tri hc inb fun ctv h' tk kx hsz => ?_
    exact go h'.objs.size c' ((X.mg "__name__").getD .none) ctv H { s with heap := h'.push (PySem.W.kla_obj "<lambda>" (X.env.qual ++ "<lambda>") params body scope (cloFrom X.env.cells scope.names []) ((X.mg "__name__").getD .none) c' ctv), toks := tk } (I.kept fun b o e => Heap.get?_push_of_some _ (kx b o e)) (.refl H) (Heap.get?_push_size _ rfl) (I.hok.fresh hsz) (far _ hsz) hco
  | none =>
    refine PySem.W.kla_makeFunction (mg := X.mg) (c := c) (P := P) (ps := ps) (closure_ok hfree) I.ok.glob (I.mod.glob.keeps I.bk) hcode (TB.code.keeps I.bk) cP tri hc TB.gP inb fun c' ctv h' tk hx hge hlt hrec htb => ?_
    obtain ⟨c2, oc, vs, t, e2, hoc, hd, hv⟩ := hrec
    cases e2
    have hsz : s.heap.objs.size ≤ h'.objs.size := Nat.le_trans hge (Nat.le_of_lt hlt)
    have nC : H c' = none := I.hok.fresh hge
    have nPC : P ≠ c' := ne_of_none hP nC
    have up := fun (b : Addr) (o : Obj) (hb : b ≠ P) (e : s.heap.get? b = some o) => Heap.get?_push_of_some (PySem.W.kla_obj "<lambda>" (X.env.qual ++ "<lambda>") params body scope (cloFrom X.env.cells scope.names []) ((X.mg "__name__").getD .none) c' ctv) (hx b o hb e)
    have J := LamX.inv_table (t' := tk) (more := #[rawInt pos.line, rawInt pos.col, .ref c']) (q := X.env.qual ++ "<lambda>") I hP up (Heap.get?_push_of_some _ htb) hge ⟨oc, vs, t, Heap.get?_push_of_some _ hoc, hd, hv⟩
    have at1 : ∀ b, b ≠ P → b ≠ c' → upd (upd H P (.tbl (ps ++ #[rawInt pos.line, rawInt pos.col, .ref c']))) c' (LamX.CodeO c' (X.env.qual ++ "<lambda>")) b = H b := fun b h1 h2 => by rw [upd_ne h2, upd_ne h1]
    have atP : upd (upd H P (.tbl (ps ++ #[rawInt pos.line, rawInt pos.col, .ref c']))) c' (LamX.CodeO c' (X.env.qual ++ "<lambda>")) P = some (.tbl (ps ++ #[rawInt pos.line, rawInt pos.col, .ref c'])) := by rw [upd_ne nPC, upd_same]
    have kk : ∀ b o, H b = some o → (∀ q, o ≠ .tbl q) → upd (upd H P (.tbl (ps ++ #[rawInt pos.line, rawInt pos.col, .ref c']))) c' (LamX.CodeO c' (X.env.qual ++ "<lambda>")) b = some o := fun b o e n => by
      rw [at1 b (fun z => n ps (Option.some.inj (e.symm.trans (by rw [z]; exact hP)))) (ne_of_none e nC)]; exact e
    have eL : (ps ++ #[rawInt pos.line, rawInt pos.col, .ref c']).toList = ps.toList ++ [rawInt pos.line, rawInt pos.col, .ref c'] := by simp
    refine go h'.objs.size c' ((X.mg "__name__").getD .none) ctv _ _ J ⟨kk, fun _ => (hT _).mpr fun p hp => ?_, fun b e => ?_, fun b o u e => ?_⟩ (Heap.get?_push_size _ rfl) ?_ (far _ hsz) upd_same
    · by_cases hb : p.1 = P
      · refine ⟨_, by rw [hb]; exact atP, by rw [eL]; exact PySem.TriplesOk_snoc _ _ _ _ tri, fun pos2 cv hcv => ?_⟩
        rw [eL] at hcv
        rw [hu p hp hb]
        rcases LamX.among_app _ tri hcv with z | z
        · obtain ⟨c0, e1, e2⟩ := old pos2 cv z
          exact ⟨c0, e1, kk _ _ e2 LamX.codeO_ne⟩
        · exact ⟨c', z, upd_same⟩
      · obtain ⟨ps2, b1, b2, b3⟩ := tb p hp
        refine ⟨ps2, by rw [at1 p.1 hb (ne_of_none b1 nC)]; exact b1, b2, fun pos2 cv hcv => ?_⟩
        obtain ⟨c0, e1, e2⟩ := b3 pos2 cv hcv
        exact ⟨c0, e1, kk _ _ e2 LamX.codeO_ne⟩
    · by_cases h1 : b = c'
      · rw [h1]; exact nC
      · by_cases h2 : b = P
        · rw [h2, atP] at e; cases e
        · rw [at1 b h2 h1] at e; exact e
    · by_cases h1 : b = c'
      · rw [h1, upd_same] at e
        unfold LamX.CodeO at e
        cases e
      · by_cases h2 : b = P
        · rw [h2, atP] at e; cases e
        · rw [at1 b h2 h1] at e; exact e
    · have n1 : h'.objs.size ≠ c' := Nat.ne_of_gt hlt
      have n2 : h'.objs.size ≠ P := Nat.ne_of_gt (Nat.lt_of_lt_of_le (Heap.lt_size cP) hsz)
      rw [at1 _ n2 n1]
      exact I.hok.fresh hsz
section
variable {G : Gv} {X : Cx} {W : WX} {Γ : List Sl} {N N' : List Str} {sc scope : Scope} {k k' iq : Nat} {pos p1 lpos kpos : Pos} {e body : Expr} {α β : Type} [Enc β] {p q : Str} {rest : List Str} {params : Arguments} {T : List (Addr × Str)} {c P : Addr}
theorem tv_sortLam {cols : β} {m : Res (List Str)} {kf : Str → Res (List Int)} (C : Dx G X W N sc k) (hk : k' + 3 ≤ k) (hg : glB sc "sorted" = true) (hm : X.mg "sorted" = none) (he : TV G X W Γ .av e m) (L : LamW scope p q) (hN' : N' = p :: q :: rest) (nd : N'.Nodup)
    (hiq : N[iq]? = some q) (hΓ : Γ[iq]? = some (.val (enc cols))) (kq : sc.names.lookup q = some .cell) (hT : ∀ H, G.tabs H ↔ LamX.Tabs T H) (TB : LamX.TabB X.base X.mg c P) (hcode : X.env.code = .ref c) (htm : (P, X.env.qual ++ "<lambda>") ∈ T) (htu : ∀ x ∈ T, x.1 = P → x.2 = X.env.qual ++ "<lambda>")
    (hdef : defaultsOf params X.env = ([], [])) (hbind : ∀ (clo : List (Str × Addr)) (pm ctv : Value) (c' : Addr) (u : Value), bindArgs (PySem.W.kla_fn "<lambda>" (X.env.qual ++ "<lambda>") params body scope clo pm (.ref c') ctv) ⟨[u], []⟩ = pure [(p, u)])
    (hb : ∀ (A : Around) (s : Shared) (H : Hp) (f c' : Addr), Dx G (lcx X N' A X.stack s H (lenv X scope p s.heap.objs.size f c')) W0 N' scope k' → ∀ x : Str, TV G (lcx X N' A X.stack s H (lenv X scope p s.heap.objs.size f c')) W0 (.val (enc x) :: .val (enc cols) :: List.replicate rest.length .any) .nw body (kf x))
    (hs0 : starEach [e] X.env = (false, eval e X.env) :: starEach [] X.env := by rfl) (hst : backTo pos (starEach [e] X.env) = (false, eval e X.env) :: backTo pos (starEach [] X.env) := by rfl) (hpl : (backTo pos (starEach [e] X.env)).any (·.1) = false := by rfl) :
    TV G X W Γ .nw (.Call (.Name "sorted" p1) [e] [⟨some "key", .Lambda params body scope lpos, kpos⟩] pos) (m.bind fun xs => sortK kf xs) := by
  intro H0 loc σ H Q A h pins s I
  have hN2 : X.N[iq]? = some q := by rw [C.n]; exact hiq
  have kq2 : X.env.scope.names.lookup q = some .cell := by rw [C.sc]; exact kq
  refine wpAny_Call_Name_kw (ld_blt I (gl_of C hg) hm (show bootBuiltins ("sorted" : Str) = some (.builtin "sorted") by decide +kernel) ?_ (by decide) (by decide))
  refine PyProof.Rows.callWith_kw ?_ hst hpl rfl rfl
  let QA : List V → Hp → Prop := fun vs H1 => ∃ xs : List Str, ∃ v, vs = [v] ∧ Ex G H H1 ∧ Rp G (rg .av Γ H0 loc H) H1 v (enc xs) ∧ Po (sortK kf xs) (fun ys => ∀ v H', Ex G H H' → Rp G (rg .nw Γ H0 loc H) H' v (enc ys) → Q v H') (Xw G W σ H)
  have args : WE X e σ H (fun x H1 => QA [x] H1) := he H0 loc σ H _ A (Po.mapI ((Po.map h).bind.imp (fun xs z v H1 e1 r1 => ⟨xs, v, rfl, e1, r1, z⟩) fun _ z => z))
  refine thn ((pa_cons (peW X e) pa_nil hs0).run pos pins s σ H QA I args) fun us s1 ⟨vs, H1, I1, rv, q1⟩ => ?_
  obtain ⟨xs, v, evs, e1, r1, z⟩ := q1
  subst evs
  obtain ⟨la, vs, ev, _, hla, rs⟩ := rp_lst (ds := xs.map enc) r1
  subst ev
  have evs := rps_strs_eq rs
  subst evs
  have A1 := A.on e1
  -- the keys
  unfold sortK at z
  cases hks : keysR kf xs with
  | err => rw [hks] at z; exact z.elim
  | exc x => rw [hks] at z; exact z.elim
  | ok ks =>
  rw [hks] at z
  have z : Po (okIf (xs.length ≤ SZ) (((xs.zip ks).mergeSort (fun a b => decide (a.2 ≤ b.2))).map (·.1))) (fun ys => ∀ v H', Ex G H H' → Rp G (rg .nw Γ H0 loc H) H' v (enc ys) → Q v H') (Xw G W σ H) := z
  obtain ⟨hz, z⟩ := z.okIf
  obtain ⟨hkl, hkz⟩ := keysR_zip hks
  -- the lambda is made
  show wpAny _ _ (evalAll [do let v ← eval (.Lambda params body scope lpos) X.env; standAt pos; pure v]) _ _ s1
  refine wpAny_evalAll_cons (wpAny_bind ?_)
  have hfree : ∀ y ∈ scope.names, y.2 = .free → ∃ c, X.env.cells.lookup y.1 = some c := fun y hy ey => by
    rw [L.names] at hy
    rcases List.mem_cons.mp hy with a | hy
    · rw [a] at ey; cases ey
    · rw [List.mem_singleton.mp hy]; exact I1.ok.has _ (.inl kq2)
  refine lam_new I1 hT A1.tabs TB hcode htm htu hdef hfree fun f c' pm ctv H2 s2 I2 e12 of fn ff cc => ?_
  refine wpAny_bind (wpAny_standAt (wpAny_pure (wpAny_evalAll_nil ?_)))
  cases rv with
  | cons ra rr =>
  cases rr
  cases ra
  have A2 := A1.on e12
  have hcd : ∀ {Ht : Hp}, Ex G H2 Ht → Ht c' = some (LamX.CodeO c' (X.env.qual ++ "<lambda>")) := fun ee => ee.k _ _ cc LamX.codeO_ne
  have hla2 : H2 la = some (.lst (xs.map V.str)) := e12.k _ _ hla (fun _ z => nomatch z)
  obtain ⟨its, rvals, hlc, _⟩ := I2.list (SqL.of hla2)
  have nfresh : ∀ {b}, s2.heap.objs.size ≤ b → H2 b = none := fun hb => I2.hok.fresh hb
  let cp := s2.heap.objs.size + 1
  let kl := s2.heap.objs.size + 3
  let Iv : Hp → Shared → Prop := fun Ht t => Ex G H2 Ht ∧ Inv X pins σ Ht t ∧ Ht kl = none ∧ Ht cp = none ∧ t.heap.get? f = some (PySem.W.kla_obj "<lambda>" (X.env.qual ++ "<lambda>") params body scope (cloFrom X.env.cells scope.names []) pm c' ctv) ∧ Ht f = none
  let Ky : Hp → Value → PyData → Prop := fun Ht v d => ∃ (a : Addr) (ns : List Int), v = .ref a ∧ d = .list (ns.map .int) ∧ Ht a = some (.lst (ns.map V.int))
  have fpk : FpOk X pins H2 kl := I2.fpOk (Nat.le_add_right _ 3) (nfresh (Nat.le_add_right _ 3))
  have fpc : FpOk X pins H2 cp := I2.fpOk (Nat.le_add_right _ 1) (nfresh (Nat.le_add_right _ 1))
  have flt : f < s2.heap.objs.size := Heap.lt_size of
  have fkl : f ≠ kl := Nat.ne_of_lt (Nat.lt_of_lt_of_le flt (Nat.le_add_right _ 3))
  have f0 := fpk.1
  have each := each_strs hkl rvals
  have lenz : (xs.zip ks).length = xs.length := by rw [List.length_zip, ← hkl, Nat.min_self]
  have A0 : ∀ {Ht : Hp}, Ex G H2 Ht → G.tabs Ht := fun ee => ee.t A2.tabs
  have KR : KeyRun X.prog X.w X.A.in1.in1 (.ref f) cp kl its ((xs.zip ks).map fun p => .list (p.2.map .int)) Iv Ky := by
    refine ⟨fun Ht t ks' c u ⟨ee, J, n1, n2, of', fn'⟩ og => ⟨ee, ?_, n1, n2, ?_, fn'⟩, fun i v d Ht t ks' c ep hv hd ⟨ee, J, n1, n2, of', fn'⟩ og oc => ?_, fun Ht t v d ⟨ee, J, n1, n2, of', fn'⟩ ⟨a, ns, ev, ed, ha⟩ => ?_⟩
    · obtain ⟨g0, g1, g2, g3, g4, g5⟩ := fpk
      exact J.turned (t' := t.toks) (fun b o hb q => by rw [Heap.get?_update_ne _ _ _ _ hb]; exact q) n1 g1 g3 g4 g5
    · rw [Heap.get?_update_ne _ _ _ _ fkl]; exact of'
    · obtain ⟨p0, hp, hkey⟩ : ∃ p0, (xs.zip ks)[i]? = some p0 ∧ d = .list (p0.2.map .int) := by
        rw [List.getElem?_map] at hd
        cases q : (xs.zip ks)[i]? with
        | none => rw [q] at hd; cases hd
        | some p0 => rw [q] at hd; exact ⟨p0, rfl, (Option.some.inj hd).symm⟩
      have rp : RelV (.str p0.1) v := each.zip (v, p0) (by
        have q1 : i < its.length := (List.getElem?_eq_some_iff.mp hv).1
        have q2 : (its.zip (xs.zip ks))[i]? = some (v, p0) := List.getElem?_zip_eq_some.mpr ⟨hv, hp⟩
        exact List.mem_of_getElem? q2)
      have hkf := hkz p0 (List.mem_of_getElem? hp)
      obtain ⟨vq, sq, rq⟩ := (A2.on ee).get hΓ
      have ra : Room (k' + 1) X.A.in1.in1 := (C.room.mono hk).in1.in1
      refine wpAny_mono (lam_call (A := X.A.in1.in1) (Q := fun w Hw => Ex G Ht Hw ∧ ∃ (a : Addr) (ns : List Int), w = .ref a ∧ ns = p0.2 ∧ Hw a = some (.lst (ns.map V.int))) J L hN' nd ra J.env0.in1.in1 of' (hcd ee) kq2 hN2 sq rp (fun u => hbind _ _ _ _ u) fun hr' => ?_) (fun u t2 hce => ?_) fun _ _ no => no
      · have rps : Rps G Top Ht [.str p0.1, vq] [enc p0.1, enc cols] := .cons (.str p0.1) (.cons rq.top .nil)
        have AT := at_entry (N := N') (S := Top) (A0 ee) rps (by rw [hN']; simp) (fun _ => 0)
        have eΓ : entryΓ N'.length [enc p0.1, enc cols] = (.val (enc p0.1) :: .val (enc cols) :: List.replicate rest.length .any) := by
          rw [hN']; unfold entryΓ; simp
        have eσ : L2.start N' [.str p0.1, vq] = (some (.str p0.1) :: some vq :: List.replicate rest.length none) := by
          rw [hN']; unfold L2.start; simp
        rw [eΓ, eσ] at AT
        refine hb X.A.in1.in1 t Ht f c' (dx_lam C.K rfl rfl hr' nd) p0.1 _ _ _ _ _ AT ?_
        rw [hkf]
        intro w Hw ew rw'
        obtain ⟨a, vs, ew1, _, hla', rs'⟩ := rp_lst (ds := p0.2.map enc) rw'
        exact ⟨ew, a, p0.2, ew1, rfl, by rw [hla', rps_ints_eq rs']⟩
      · obtain ⟨w, H', os, bare, un, hok, rw', ew, a, ns, e1', e2', e3'⟩ := hce
        obtain ⟨w2, H2', J2, _, _, eH⟩ := J.after (Q := fun w' H'' => w' = w ∧ H'' = H') ⟨w, H', os, bare, un, hok, rw', rfl, rfl⟩
        subst eH
        have nk : ∀ {b : Addr}, b ≠ X.env.locals → b ∉ X.fs → b ∉ frs X.stack := fun h1 h2 => fs_not J h1 h2
        refine ⟨H2', ⟨ee.trans ew, J2, un.free _ _ og n1 (by simp), un.free _ _ oc n2 (by simp), un.keep _ _ of' fn' ff (by simp), un.free _ _ of' fn' (by simp)⟩, ⟨a, ns, ?_, by rw [hkey, e2'], e3'⟩, fun v d ⟨a, ns, h1, h2, h3⟩ => ⟨a, ns, h1, h2, ew.k _ _ h3 (fun _ z => nomatch z)⟩, un.keep _ _ og n1 (nk fpk.2.1 fpk.2.2.1) (by simp), un.keep _ _ oc n2 (nk fpc.2.1 fpc.2.2.1) (by simp)⟩
        rw [e1'] at rw'
        exact rw'
    · rw [ev, ed]
      refine Dp.reads J (.list (ns.map .int)) (.ref a) (.ref a) (.lst (SqL.of ha) ?_) rfl
      clear ed ev ha
      induction ns with
      | nil => exact .nil
      | cons n ns ih => exact .cons (.int n) ih
  refine wpAny_mono (sorted_newkeys (l := la) (us := its) (bs := xs.zip ks) (R := fun u (p : Str × List Int) => RelV (.str p.1) u) (Iv := Iv) (Ky := Ky) (x0 := H2) (fun p => .list (p.2.map .int)) hlc.isList each ?alike ?sortable (by rw [lenz]; exact Nat.le_trans hz (by rw [sz_eq]; decide)) ?units KR (fun g kp => ⟨.refl _, I2.kept kp, fpk.1, fpc.1, kp _ _ of, fn⟩) (Q := EP X pins σ Q) ?fin) (fun _ _ z => z) fun _ _ no => no
  case alike =>
    intro d hd d' hd'
    obtain ⟨b, _, rfl⟩ := List.mem_map.mp hd
    obtain ⟨b', _, rfl⟩ := List.mem_map.mp hd'
    show PySem.W.alikeAll _ _ = true
    exact PySem.W.alike_ints _ _
  case sortable => exact Sortable.others fun b => ⟨(fun z => nomatch z), (fun xs z => nomatch z)⟩
  case units =>
    intro b _
    have e : (PyData.list (b.2.map .int)).depth = 1 := by
      show PyData.depthAll _ + 1 = 1
      rw [PySem.W.depth_ints]
    rw [e]
    have := C.room.units
    omega
  case fin =>
    intro Ht t g tk out c0 ⟨ee, J, n1, n2, of', fn'⟩ kp hg hout
    rw [PySem.W.dataLe_rows] at hout
    have hv := vals_each hout
    have J2 : Inv X pins σ Ht { t with heap := g, toks := tk } := J.turnedL (ch := [cp, kl]) (fun b o hb q => kp b o (fun z => hb (z ▸ List.mem_cons_self ..)) (fun z => hb (z ▸ List.mem_cons_of_mem _ (List.mem_singleton.mpr rfl))) q) fun b hb => by
      rcases List.mem_cons.mp hb with z | z
      · rw [z]; exact ⟨n2, fpc.2⟩
      · rw [List.mem_singleton.mp z]; exact ⟨n1, fpk.2⟩
    have lz : ((((xs.zip ks).mergeSort (fun a b => decide (a.2 ≤ b.2))).map (·.1)).map V.str).length ≤ sizeLine := by
      rw [List.length_map, List.length_map, List.length_mergeSort, lenz]
      exact Nat.le_trans hz (by rw [sz_eq]; decide)
    have J3 := J2.take (h' := g) (t' := tk) (it := cp) (o := .lst ((((xs.zip ks).mergeSort (fun a b => decide (a.2 ≤ b.2))).map (·.1)).map V.str)) (fun _ _ _ q => q) ⟨n2, fpc.2⟩ ⟨lz, out, c0, hv, hg⟩
    have en : Ex G Ht (upd Ht cp (.lst ((((xs.zip ks).mergeSort (fun a b => decide (a.2 ≤ b.2))).map (·.1)).map V.str))) := .new n2
    exact ⟨.ref cp, _, J3, rfl, z _ _ (((e1.trans e12).trans ee).trans en) (.lst (rg_new (A2.on ee) ((e1.trans e12).trans ee) n2) upd_same (rps_strs _))⟩
end
end CS
namespace CS
open Enc (enc)
open PySem PySem.Spec PyProof.Rows L2
/-- what the making of a lambda asks -/
structure Lt (G : Gv) (X : Cx) : Prop where
  ex : ∃ (T : List (Addr × Str)) (c P : Addr), (∀ H, G.tabs H ↔ LamX.Tabs T H) ∧ LamX.TabB X.base X.mg c P ∧ X.env.code = .ref c ∧ (P, X.env.qual ++ "<lambda>") ∈ T ∧ ∀ x ∈ T, x.1 = P → x.2 = X.env.qual ++ "<lambda>"
/-- the scope of the lambda that a def's return sorts by -/
def lamScope : List Stmt → Scope
  | [.Return (some (.Call _ _ [⟨_, .Lambda _ _ sc _, _⟩] _)) _] => sc
  | _ => defScope (.Pass ⟨0, 0, 0, 0⟩)
theorem tv_sortLam' {G : Gv} {X : Cx} {W : WX} {Γ : List Sl} {N N' : List Str} {sc scope : Scope} {k k' iq : Nat} {pos p1 lpos kpos : Pos} {e body : Expr} {β : Type} [Enc β] {p q : Str} {rest : List Str} {params : Arguments} {cols : β} {m : Res (List Str)} {kf : Str → Res (List Int)}
    (L0 : Lt G X) (C : Dx G X W N sc k) (hk : k' + 3 ≤ k) (hg : glB sc "sorted" = true) (hm : X.mg "sorted" = none) (he : TV G X W Γ .av e m) (L : LamW scope p q) (hN' : N' = p :: q :: rest) (nd : N'.Nodup)
    (hiq : N[iq]? = some q) (hΓ : Γ[iq]? = some (.val (enc cols))) (kq : sc.names.lookup q = some .cell) (hdef : defaultsOf params X.env = ([], []))
    (hbind : ∀ (clo : List (Str × Addr)) (pm ctv : Value) (c' : Addr) (u : Value), bindArgs (PySem.W.kla_fn "<lambda>" (X.env.qual ++ "<lambda>") params body scope clo pm (.ref c') ctv) ⟨[u], []⟩ = pure [(p, u)])
    (hb : ∀ (A : Around) (s : Shared) (H : Hp) (f c' : Addr), Dx G (lcx X N' A X.stack s H (lenv X scope p s.heap.objs.size f c')) W0 N' scope k' → ∀ x : Str, TV G (lcx X N' A X.stack s H (lenv X scope p s.heap.objs.size f c')) W0 (.val (enc x) :: .val (enc cols) :: List.replicate rest.length .any) .nw body (kf x))
    (hs0 : starEach [e] X.env = (false, eval e X.env) :: starEach [] X.env := by rfl) (hst : backTo pos (starEach [e] X.env) = (false, eval e X.env) :: backTo pos (starEach [] X.env) := by rfl) (hpl : (backTo pos (starEach [e] X.env)).any (·.1) = false := by rfl) :
    TV G X W Γ .nw (.Call (.Name "sorted" p1) [e] [⟨some "key", .Lambda params body scope lpos, kpos⟩] pos) (m.bind fun xs => sortK kf xs) := by
  obtain ⟨T, c, P, h1, h2, h3, h4, h5⟩ := L0.ex
  exact tv_sortLam C hk hg hm he L hN' nd hiq hΓ kq h1 h2 h3 h4 h5 hdef hbind hb hs0 hst hpl
end CS
namespace CS
open Enc (enc)
open PySem PySem.Spec PyProof.Rows L2
open PySem.W (Datum)
section
variable {G : Gv} {X : Cx} {W : WX} {Γ : List Sl} {N : List Str} {sc : Scope} {k : Nat} {R Ra Rb : Rg} {pos p p2 : Pos} {a b : Expr} {α κ : Type} [Enc α] [EKey κ] [DecidableEq κ] [DecidableEq α]
/-! ### dicts compared: the same in the same order -/
def dneR (x y : Dct κ α) : Res Bool := okIf (x.kvs = y.kvs ∧ (x.kvs.map (·.1)).Nodup) false
def deqR (x y : Dct κ α) : Res Bool := okIf (x.kvs = y.kvs ∧ (x.kvs.map (·.1)).Nodup) true
theorem val_of {S : Addr → Prop} {H : Hp} {q : κ × α} : ∀ {kvs : List (κ × α)} {ls : List (Key × V)} {vb : List (Key × Value)}, RpK G S H ls (kvs.map fun p => (EKey.key p.1, enc p.2)) → KV ls vb → (kvs.map (·.1)).Nodup → q ∈ kvs → ∃ u y, PySem.valueAt vb (EKey.key q.1) = some y ∧ RelV u y ∧ Rp G S H u (enc q.2)
  | [], _, _, _, _, _, hm => absurd hm (by simp)
  | r :: kvs, _, _, .cons rv rt, .cons kv kt, nd, hm => by
    rename_i l ls w vb
    obtain ⟨k1, k2⟩ := kv
    obtain ⟨w1, w2⟩ := w
    have k1 : EKey.key r.1 = w1 := k1
    rw [List.map_cons, List.nodup_cons] at nd
    rcases List.mem_cons.mp hm with e | hm
    · subst e
      exact ⟨_, w2, by unfold PySem.valueAt; rw [List.find?_cons_of_pos (by simpa using k1.symm)]; rfl, k2, rv⟩
    · obtain ⟨u, y, h1, h2, h3⟩ := val_of rt kt nd.2 hm
      refine ⟨u, y, ?_, h2, h3⟩
      have ne : w1 ≠ EKey.key q.1 := fun z => nd.1 (by
        have : r.1 = q.1 := EKey.inj _ _ (k1.trans z)
        rw [this]; exact List.mem_map.mpr ⟨q, hm, rfl⟩)
      unfold PySem.valueAt at h1 ⊢
      rw [List.find?_cons_of_neg (by simpa using ne)]
      exact h1
theorem hits_of {S : Addr → Prop} {pins : List (Addr × Obj)} {σ : L2.St} {H : Hp} {s : Shared} [Datum α] [Ec α] {A : Around} (hK : X.K = G.K) (I : L2.Inv X pins σ H s) (hu : A.units + Datum.depth α < cLine) {full : List (κ × α)} {ls : List (Key × V)} {vb : List (Key × Value)}
    (rl : RpK G S H ls (full.map fun p => (EKey.key p.1, enc p.2))) (kl : KV ls vb) (nd : (full.map (·.1)).Nodup) : ∀ {kvs : List (κ × α)} {ks : List (Key × V)} {va : List (Key × Value)}, (∀ q ∈ kvs, q ∈ full) → RpK G S H ks (kvs.map fun p => (EKey.key p.1, enc p.2)) → KV ks va → PySem.W.KeqHits A s vb va true
  | [], _, _, _, .nil, .nil => .nil
  | r :: kvs, _, _, hs, .cons rv rt, .cons kv kt => by
    rename_i l ks w va
    obtain ⟨k1, k2⟩ := kv
    obtain ⟨w1, w2⟩ := w
    have k1 : EKey.key r.1 = w1 := k1
    obtain ⟨u, y, h1, h2, h3⟩ := val_of (q := r) rl kl nd (hs r (List.mem_cons_self ..))
    have e := PySem.W.eqAt_datum (A := A) (Rp.holds hK I rv k2) (Rp.holds hK I h3 h2) hu
    rw [decide_eq_true rfl] at e
    show PySem.W.KeqHits A s vb ((w1, w2) :: va) (true && true)
    exact .hit (by rw [← k1]; exact h1) e (hits_of hK I hu rl kl nd (fun q hq => hs q (List.mem_cons_of_mem _ hq)) rt kt)
def rDcT (G : Gv) (κ α : Type) [Enc α] [EKey κ] (z : Bool) : R2 := fun v u H Q => ∃ x : Dct κ α, (x.kvs.map (·.1)).Nodup ∧ Rp G Top H v (enc x) ∧ Rp G Top H u (enc x) ∧ Q (.bl z) H
variable [Datum α] [Ec α]
theorem op_dict (C : Dx G X W N sc k) (hd : Datum.depth α ≤ 62) : OpR X (compareOp .Eq) (rDcT G κ α true) ∧ OpR X (compareOp .NotEq) (rDcT G κ α false) := by
  have key : ∀ {pins s σ H v u} {x : Dct κ α} {y z : V}, L2.Inv X pins σ H s → (x.kvs.map (·.1)).Nodup → Rp G Top H y (enc x) → Rp G Top H z (enc x) → RelV y v → RelV z u →
      ∃ a b va vb, v = .ref a ∧ u = .ref b ∧ (a == sysModules) = false ∧ (b == sysModules) = false ∧ s.heap.DictOf (mixKind X.prog X.w) a va ∧ s.heap.DictOf (mixKind X.prog X.w) b vb ∧ va.length = vb.length ∧ PySem.W.KeqHits X.A.in1 s vb va true := by
    intro pins s σ H v u x y z I nd r1 r2 rx ry
    obtain ⟨a, ks, ea, _, h1, rk⟩ := rp_dct (ds := x.kvs.map fun p => (EKey.key p.1, enc p.2)) r1
    obtain ⟨b, ls, eb, _, h2, rl⟩ := rp_dct (ds := x.kvs.map fun p => (EKey.key p.1, enc p.2)) r2
    subst ea; subst eb
    obtain ⟨_, ya, va, ra, da⟩ := (show ObjOk X.prog X.w H s.heap a (.dK ks) from h1.ok I.hok)
    obtain ⟨_, yb, vb, rb, db⟩ := (show ObjOk X.prog X.w H s.heap b (.dK ls) from h2.ok I.hok)
    have lk : ∀ {kvs : List (κ × α)} {ks : List (Key × V)}, RpK G Top H ks (kvs.map fun p => (EKey.key p.1, enc p.2)) → ks.length = kvs.length := fun {kvs} => by
      induction kvs with
      | nil => intro ks h; cases h; rfl
      | cons q kvs ih => intro ks h; cases h with
        | cons _ t => simp [ih t]
    exact ⟨a, b, va, vb, rx, ry, ya, yb, da, db, by rw [← Paired.length ra, ← Paired.length rb, lk rk, lk rl], hits_of C.K I (by have := C.room.units; show X.A.units + 1 + _ < _; omega) rl rb nd (fun q hq => hq) rk ra⟩
  refine ⟨?_, ?_⟩
  · intro pins s σ H y z v u Q I rx ry ⟨x, nd, r1, r2, q⟩
    obtain ⟨a, b, va, vb, e1, e2, ya, yb, da, db, hl, hh⟩ := key I nd r1 r2 rx ry
    subst e1; subst e2
    exact PySem.W.keq_eq (knd := mixKind X.prog X.w) (r := true) ya yb da db C.room.units0 (fun _ => hh) (fin_bl I q (by simp [hl]))
  · intro pins s σ H y z v u Q I rx ry ⟨x, nd, r1, r2, q⟩
    obtain ⟨a, b, va, vb, e1, e2, ya, yb, da, db, hl, hh⟩ := key I nd r1 r2 rx ry
    subst e1; subst e2
    exact PySem.W.keq_ne (knd := mixKind X.prog X.w) (r := true) ya yb da db C.room.units0 (fun _ => hh) (fin_bl I q (by simp [hl]))
theorem cmp_neDct (C : Dx G X W N sc k) (hd : Datum.depth α ≤ 62) : CmpR G X .NotEq (dneR : Dct κ α → Dct κ α → Res Bool) := ⟨_, (op_dict C hd).2, fun x y v u H Q q r1 r2 h _ => by
  unfold dneR at h
  obtain ⟨⟨e, nd⟩, h2⟩ := h.okIf
  have e : x = y := by cases x; cases y; exact congrArg Dct.mk e
  subst e
  exact ⟨x, nd, r1, r2, h2⟩⟩
theorem cmp_eqDct (C : Dx G X W N sc k) (hd : Datum.depth α ≤ 62) : CmpR G X .Eq (deqR : Dct κ α → Dct κ α → Res Bool) := ⟨_, (op_dict C hd).1, fun x y v u H Q q r1 r2 h _ => by
  unfold deqR at h
  obtain ⟨⟨e, nd⟩, h2⟩ := h.okIf
  have e : x = y := by cases x; cases y; exact congrArg Dct.mk e
  subst e
  exact ⟨x, nd, r1, r2, h2⟩⟩
theorem calm_dne : Calm2 (dneR : Dct κ α → Dct κ α → Res Bool) := fun x y z h => by unfold dneR okIf at h; split at h <;> cases h
theorem calm_deq : Calm2 (deqR : Dct κ α → Dct κ α → Res Bool) := fun x y z h => by unfold deqR okIf at h; split at h <;> cases h
end
section
variable {G : Gv} {X : Cx} {W : WX} {Γ : List Sl} {N : List Str} {sc : Scope} {k : Nat} {R Ra Rb : Rg} {pos p p2 : Pos} {a b : Expr} {α : Type} [Enc α]
/-- an object laid first, written at the end -/
theorem ex_disp {H H2 : Hp} {q : Addr} {o : HO} (hq : H q = none) (e : Ex G (upd H q (.dK [])) H2) (ho : notFz o) : Ex G H (upd H2 q o) := by
  have hat : H2 q = some (.dK []) := e.k q _ upd_same (fun _ z => nomatch z)
  refine ⟨fun b u h n => ?_, fun t => tabs_upd hat trivial (e.t ((Ex.new (o := .dK []) hq).t t)), fun b h => ?_, fun b u w h => ?_⟩
  · have hb := ne_of_none h hq
    rw [upd_ne hb]
    exact e.k b u (by rw [upd_ne hb]; exact h) n
  · by_cases hb : b = q
    · rw [hb, upd_same] at h; cases h
    · rw [upd_ne hb] at h
      have := e.f b h
      rw [upd_ne hb] at this; exact this
  · by_cases hb : b = q
    · rw [hb, upd_same] at h
      cases Option.some.inj h
      exact ho.elim
    · rw [upd_ne hb] at h
      have := e.z b u w h
      rw [upd_ne hb] at this; exact this
/-- a dict of one text key, its value new -/
theorem tv_dict1 {kx : Str} {j : Nat} {cp : Pos} {m : Res α} (hv : TV G X W Γ .nw a m) : TV G X W Γ .nw (.Dict [some (.Constant (.str kx) j cp)] [a] pos) (m.bind fun x => .ok (Dct.mk [(kx, x)])) := by
  intro H0 loc σ H Q A h pins s I
  refine (pe_disp (pps_cons pe_str (peW X a) pps_nil) rfl rfl (by simp) (by simp)).run pins s σ H Q I fun q hq => ?_
  have eq0 : Ex G H (upd H q (.dK [])) := .new hq
  refine hv H0 loc σ _ _ (A.on eq0) (Po.mapI ((Po.map h).bind.imp (fun x z v H2 e2 r2 => ?_) fun y z => Xw.on eq0 z))
  have hat : H2 q = some (.dK []) := e2.k q _ upd_same (fun _ z => nomatch z)
  refine ⟨hat, [(.inr kx, v)], rfl, by simp, ?_⟩
  have z : ∀ (v : V) (H' : Hp), Ex G H H' → Rp G (rg .nw Γ H0 loc H) H' v (enc (Dct.mk [(kx, x)])) → Q v H' := z
  refine z (.ref q) _ (ex_disp hq e2 trivial) (.dct (show H q = none from hq) (.inl upd_same) (.cons (?_ : Rp G _ _ v (enc x)) .nil))
  exact (r2.tr (tr_upd (o := .dK [(.inr kx, v)]) hat trivial fun b sb z => by
    have sb : upd H q (.dK []) b = none := sb
    rw [z, upd_same] at sb; cases sb)).sub fun b sb _ => eq0.f b sb
/-- no dict stands in it -/
class NotD (α : Type) [Enc α] : Prop where
  go : ∀ (G : Gv) (S : Addr → Prop) (H : Hp) (v : V) (x : α) (q : Addr) (kvs : List (Key × V)), H q = some (.dK kvs) → Rp G S H v (enc x) → Rp G (fun a => S a ∧ a ≠ q) H v (enc x)
instance [Flat α] : NotD (List α) := ⟨fun G S H v x q kvs hq h => by
  obtain ⟨a, vs, ev, sa, ha, rs⟩ := rp_lst (ds := x.map enc) h
  subst ev
  exact .lst ⟨sa, fun z => by rw [z, hq] at ha; cases ha⟩ ha (rps_flat rs)⟩
theorem tv_dict1N [NotD α] {kx : Str} {j : Nat} {cp : Pos} {m : Res α} (hv : TV G X W Γ R a m) : TV G X W Γ R (.Dict [some (.Constant (.str kx) j cp)] [a] pos) (m.bind fun x => .ok (Dct.mk [(kx, x)])) := by
  intro H0 loc σ H Q A h pins s I
  refine (pe_disp (pps_cons pe_str (peW X a) pps_nil) rfl rfl (by simp) (by simp)).run pins s σ H Q I fun q hq => ?_
  have eq0 : Ex G H (upd H q (.dK [])) := .new hq
  refine hv H0 loc σ _ _ (A.on eq0) (Po.mapI ((Po.map h).bind.imp (fun x z v H2 e2 r2 => ?_) fun y z => Xw.on eq0 z))
  have hat : H2 q = some (.dK []) := e2.k q _ upd_same (fun _ z => nomatch z)
  refine ⟨hat, [(.inr kx, v)], rfl, by simp, ?_⟩
  have z : ∀ (v : V) (H' : Hp), Ex G H H' → Rp G (rg R Γ H0 loc H) H' v (enc (Dct.mk [(kx, x)])) → Q v H' := z
  refine z (.ref q) _ (ex_disp hq e2 trivial) (.dct (rg_new A (.refl H) hq) (.inl upd_same) (.cons (?_ : Rp G _ _ v (enc x)) .nil))
  exact ((NotD.go G _ H2 v x q [] hat r2).tr (tr_upd (o := .dK [(.inr kx, v)]) hat trivial fun b sb => sb.2)).sub fun b sb _ => rg_back eq0 b sb.1
/-- isinstance(x, T) of a built-in type -/
theorem tv_isi {g : α → Bool} {T : String} {x y : Str} {py : Pos} (C : Dx G X W N sc k) (hg : glB sc x = true) (hm : X.mg x = none) (hg2 : glB sc y = true) (hm2 : X.mg y = none) (hv : bootBuiltins x = some (.builtin "isinstance")) (hv2 : bootBuiltins y = some (.type T)) {m : Res α} (ha : TV G X W Γ Ra a m)
    (ht : ∀ (S : Addr → Prop) (H : Hp) (v : V) (d : α), Rp G S H v (enc d) → ∃ t, TyX G.K H v (.type t) ∧ kitB t T = some (g d)) (hn : x ≠ "__name__" := by decide) (hdb : (x == ("__debug__" : Str)) = false := by decide) (hn2 : y ≠ "__name__" := by decide) (hdb2 : (y == ("__debug__" : Str)) = false := by decide)
    (hs1 : starEach [a, .Name y py] X.env = (false, eval a X.env) :: starEach [.Name y py] X.env := by rfl) (hs2 : starEach [.Name y py] X.env = (false, eval (.Name y py) X.env) :: starEach [] X.env := by rfl) (hpl : (backTo pos (starEach [.Name y py] X.env)).any (·.1) = false := by rfl) :
    TV G X W Γ R (.Call (.Name x p) [a, .Name y py] [] pos) (m.bind fun d => .ok (g d)) := by
  intro H0 loc σ H Q A h pins s I
  refine (pe_callB call_isi (gl_of C hg) hm hv (pa_cons (peW X a) (pa_cons (pe_bltn (v := .ty T) (gl_of C hg2) hm2 hv2 rfl hn2 hdb2) pa_nil hs2) hs1) hn hdb (he := hs1) (hpl := hpl)).run pins s σ H Q I (ha H0 loc σ H _ A (Po.mapI ((Po.map h).bind.imp (fun d z v H1 e1 r1 => ?_) fun _ z => z)))
  obtain ⟨t, h1, h2⟩ := ht _ H1 v d r1
  exact ⟨v, .ty T, .type t, .type T, g d, rfl, .ty T, by rw [C.K]; exact h1, kit_ty h2, z _ _ e1 (.bl _)⟩
theorem isi_list (S : Addr → Prop) (H : Hp) (v : V) (d : List α) (h : Rp G S H v (enc d)) : ∃ t, TyX G.K H v (.type t) ∧ kitB t "list" = some true := by
  obtain ⟨q, vs, ev, _, hq, _⟩ := rp_lst (ds := d.map enc) h
  subst ev
  exact ⟨"list", .base (.lst hq), by decide +kernel⟩
end
end CS
namespace CS
open Enc (enc)
open PySem PySem.Spec PyProof.Rows L2
def top (i : Nat) : Stmt := PySem.Challenge.pw_cardshop_k51_worked.main.body.getD i (.Pass ⟨0, 0, 0, 0⟩)
structure Bn (G : Gv) (K : PySem.W.Frag) (mg : Str → Option Value) : Prop where
  n_divmod : mg "divmod" = none
  n_enumerate : mg "enumerate" = none
  n_int : mg "int" = none
  n_isinstance : mg "isinstance" = none
  n_len : mg "len" = none
  n_list : mg "list" = none
  n_min : mg "min" = none
  n_range : mg "range" = none
  n_sorted : mg "sorted" = none
  n_str : mg "str" = none
  n_zip : mg "zip" = none
  n_FIGURES : ∃ t, mg "FIGURES" = some (.str "0123456789" t)
  n_LETTERS : ∃ t, mg "LETTERS" = some (.str "abcdefghijklmnopqrstuvwxyz" t)
  n_SIGNS : ∃ t, mg "SIGNS" = some (.str " 0123456789ABCDEFGHIJKLMNOPQRSTUVWXYZ" t)
  n_WIDTH : ∃ t, mg "WIDTH" = some (.int 40 t)
  cls_Asking : Cls K (G.cl 0)
  no_Asking_deck : NoAttr K (G.cl 0) "deck"
  no_Asking_picks : NoAttr K (G.cl 0) "picks"
  no_Asking_middle : NoAttr K (G.cl 0) "middle"
  no_Asking_order : NoAttr K (G.cl 0) "order"
  no_Asking_works : NoAttr K (G.cl 0) "works"
  no_Asking_breaks : NoAttr K (G.cl 0) "breaks"
  no_Asking_sums : NoAttr K (G.cl 0) "sums"
  no_Asking_figures : NoAttr K (G.cl 0) "figures"
  no_Asking_board : NoAttr K (G.cl 0) "board"
structure Asking where
  f_deck : Str
  f_picks : (List ((Int × Int) × Str))
  f_middle : Dt
  f_order : (List (Int × Int))
  f_works : (List (T4 (Int × Int) (Int × Int) Str (Int × Int)))
  f_breaks : Int
  f_sums : (List (Int × Int))
  f_figures : Int
  f_board : (List (Int × Int))
def flds_Asking (a : Asking) : List (Str × Dt) := [("deck", enc a.f_deck), ("picks", enc a.f_picks), ("middle", enc a.f_middle), ("order", enc a.f_order), ("works", enc a.f_works), ("breaks", enc a.f_breaks), ("sums", enc a.f_sums), ("figures", enc a.f_figures), ("board", enc a.f_board)]
instance : Enc Asking := ⟨fun a => .obj 0 (flds_Asking a)⟩
/-! ### columns_of -/
abbrev N_columns_of : List Str := ["field"]
abbrev P_columns_of : List Str := ["field"]
abbrev sc_columns_of : Scope := defScope (top 17)
abbrev A_columns_of : Type := ((Int × Int) × Unit)
def t_columns_of : A_columns_of → List Dt := (tcons (α := (Int × Int)) tnil)
def b_columns_of (r : A_columns_of) : Res (Fl Unit (List Int)) := ((((.ok r.1 : Res (Int × Int))).bind fun v_1 => .ok v_1.1).bind fun v_5 => ((((.ok r.1 : Res (Int × Int))).bind fun v_2 => .ok v_2.2).bind fun v_3 => ((.ok 1 : Res Int)).bind fun v_4 => .ok (v_3 + v_4)).bind fun v_6 => rangeL v_5 v_6).bind fun r_7 => .ok (.rt r_7)
def m_columns_of (r : A_columns_of) : Res (List Int) := (b_columns_of r).bind (Fl.fin fun _ => .err)
theorem h_columns_of {G : Gv} {X : Cx} {W : WX} (B : Bn G X.K X.mg) (C : Dd G X W N_columns_of sc_columns_of 0) (r : A_columns_of) : HL G X W none false (entryΓ 1 (t_columns_of r)) (defBody (top 17)) (fun _ : Unit => [.any]) (b_columns_of r) :=
  by
  have z : entryΓ 1 (t_columns_of r) = [.val (enc (r.1 : (Int × Int)))] := rfl
  rw [z]
  unfold b_columns_of
  exact (hl_ret trivial (tv_lrange (R := .fr/-p-/) C.toDx (tv_ixT C.toDx (tv_var (i := 0) C.toDx rfl rfl rfl) (fun x : (Int × Int) => x.1) (fun _ => ⟨_, rfl, rfl⟩)) (tv_add (R := .fr/-p-/) (tv_ixT C.toDx (tv_var (i := 0) C.toDx rfl rfl rfl) (fun x : (Int × Int) => x.2) (fun _ => ⟨_, rfl, rfl⟩)) (tv_int (R := .fr/-p-/))) rfl B.n_range rfl B.n_list))

/-! ### are_apart -/
abbrev N_are_apart : List Str := ["one", "other"]
abbrev P_are_apart : List Str := ["one", "other"]
abbrev sc_are_apart : Scope := defScope (top 18)
abbrev A_are_apart : Type := ((Int × Int) × ((Int × Int) × Unit))
def t_are_apart : A_are_apart → List Dt := (tcons (α := (Int × Int)) (tcons (α := (Int × Int)) tnil))
def b_are_apart (r : A_are_apart) : Res (Fl Unit Bool) := (orR ((((.ok r.1 : Res (Int × Int))).bind fun v_8 => .ok v_8.2).bind fun v_10 => (((.ok r.2.1 : Res (Int × Int))).bind fun v_9 => .ok v_9.1).bind fun v_11 => .ok (decide (v_10 < v_11))) ((((.ok r.2.1 : Res (Int × Int))).bind fun v_12 => .ok v_12.2).bind fun v_14 => (((.ok r.1 : Res (Int × Int))).bind fun v_13 => .ok v_13.1).bind fun v_15 => .ok (decide (v_14 < v_15)))).bind fun r_16 => .ok (.rt r_16)
def m_are_apart (r : A_are_apart) : Res Bool := (b_are_apart r).bind (Fl.fin fun _ => .err)
theorem h_are_apart {G : Gv} {X : Cx} {W : WX} (B : Bn G X.K X.mg) (C : Dd G X W N_are_apart sc_are_apart 0) (r : A_are_apart) : HL G X W none false (entryΓ 2 (t_are_apart r)) (defBody (top 18)) (fun _ : Unit => [.any, .any]) (b_are_apart r) :=
  by
  have z : entryΓ 2 (t_are_apart r) = [.val (enc (r.1 : (Int × Int))), .val (enc (r.2.1 : (Int × Int)))] := rfl
  rw [z]
  unfold b_are_apart
  exact (hl_ret trivial (tv_or (R := .fr/-p-/) (tv_cmp (R := .fr/-p-/) cmp_lt (fun _ _ _ h => nomatch h) (tv_ixT C.toDx (tv_var (i := 0) C.toDx rfl rfl rfl) (fun x : (Int × Int) => x.2) (fun _ => ⟨_, rfl, rfl⟩)) (tv_ixT C.toDx (tv_var (i := 1) C.toDx rfl rfl rfl) (fun x : (Int × Int) => x.1) (fun _ => ⟨_, rfl, rfl⟩)) rfl) (tv_and1 (tv_cmp (R := .fr/-p-/) cmp_lt (fun _ _ _ h => nomatch h) (tv_ixT C.toDx (tv_var (i := 1) C.toDx rfl rfl rfl) (fun x : (Int × Int) => x.2) (fun _ => ⟨_, rfl, rfl⟩)) (tv_ixT C.toDx (tv_var (i := 0) C.toDx rfl rfl rfl) (fun x : (Int × Int) => x.1) (fun _ => ⟨_, rfl, rfl⟩)) rfl))))

/-! ### part_of -/
abbrev N_part_of : List Str := ["card", "field"]
abbrev P_part_of : List Str := ["card", "field"]
abbrev sc_part_of : Scope := defScope (top 19)
abbrev A_part_of : Type := (Str × ((Int × Int) × Unit))
def t_part_of : A_part_of → List Dt := (tcons (α := Str) (tcons (α := (Int × Int)) tnil))
def b_part_of (r : A_part_of) : Res (Fl Unit Str) := (((.ok r.1 : Res Str)).bind fun v_23 => (((((.ok r.2.1 : Res (Int × Int))).bind fun v_17 => .ok v_17.1).bind fun v_18 => ((.ok 1 : Res Int)).bind fun v_19 => .ok (v_18 - v_19)).bind fun v_20 => .ok (some v_20)).bind fun v_24 => ((((.ok r.2.1 : Res (Int × Int))).bind fun v_21 => .ok v_21.2).bind fun v_22 => .ok (some v_22)).bind fun v_25 => cutR v_23 v_24 v_25).bind fun r_26 => .ok (.rt r_26)
def m_part_of (r : A_part_of) : Res Str := (b_part_of r).bind (Fl.fin fun _ => .err)
theorem h_part_of {G : Gv} {X : Cx} {W : WX} (B : Bn G X.K X.mg) (C : Dd G X W N_part_of sc_part_of 0) (r : A_part_of) : HL G X W none false (entryΓ 2 (t_part_of r)) (defBody (top 19)) (fun _ : Unit => [.any, .any]) (b_part_of r) :=
  by
  have z : entryΓ 2 (t_part_of r) = [.val (enc (r.1 : Str)), .val (enc (r.2.1 : (Int × Int)))] := rfl
  rw [z]
  unfold b_part_of
  exact (hl_ret trivial (tv_slS (R := .fr/-p-/) (tv_var (i := 0) C.toDx rfl rfl rfl) (eo_some (tv_sub (R := .fr/-p-/) (tv_ixT C.toDx (tv_var (i := 1) C.toDx rfl rfl rfl) (fun x : (Int × Int) => x.1) (fun _ => ⟨_, rfl, rfl⟩)) (tv_int (R := .fr/-p-/)))) (eo_some (tv_ixT C.toDx (tv_var (i := 1) C.toDx rfl rfl rfl) (fun x : (Int × Int) => x.2) (fun _ => ⟨_, rfl, rfl⟩)))))

/-! ### is_name -/
abbrev N_is_name : List Str := ["text", "sign"]
abbrev P_is_name : List Str := ["text"]
abbrev sc_is_name : Scope := defScope (top 33)
abbrev A_is_name : Type := (Str × Unit)
def t_is_name : A_is_name → List Dt := (tcons (α := Str) tnil)
def b_is_name (r : A_is_name) : Res (Fl Unit Bool) := ((((.ok r.1 : Res Str)).bind fun v_29 => .ok (sgn v_29)).bind fun xs_35 => forR xs_35 (() : Unit) (fun (x_30 : Str) (s_28 : Unit) => (((.ok x_30 : Res Str)).bind fun v_31 => ((.ok "abcdefghijklmnopqrstuvwxyz" : Res Str)).bind fun v_32 => ninS v_31 v_32).bind fun z_33 => if z_33 = true then (((.ok false : Res Bool)).bind fun r_34 => .ok (.rt r_34) : Res (Fl Unit Bool)).bind Fl.cut else .ok (.nx ())) : Res (Fl Unit Bool)).bind fun f => f.goL (fun s_36 => (((.ok 1 : Res Int)).bind fun c_38 => chT c_38 [(fun x y => decide (x ≤ y), ((.ok r.1 : Res Str)).bind fun v_37 => lenS v_37), (fun x y => decide (x ≤ y), (.ok 8 : Res Int))]).bind fun r_39 => .ok (.rt r_39))
def m_is_name (r : A_is_name) : Res Bool := (b_is_name r).bind (Fl.fin fun _ => .err)
theorem h_is_name {G : Gv} {X : Cx} {W : WX} (B : Bn G X.K X.mg) (C : Dd G X W N_is_name sc_is_name 0) (r : A_is_name) : HL G X W none false (entryΓ 2 (t_is_name r)) (defBody (top 33)) (fun _ : Unit => [.any, .any]) (b_is_name r) :=
  by
  have z : entryΓ 2 (t_is_name r) = [.val (enc (r.1 : Str)), .any] := rfl
  rw [z]
  unfold b_is_name
  exact (hl_consL (G1 := (fun (s_27 : Unit) => [.val (enc (r.1 : Str)), .any])) (hs_for (Gs := (fun (s_27 : Unit) => [.val (enc (r.1 : Str)), .any])) (Γ1 := fun (s_28 : Unit) (x_30 : Str) => [.val (enc (r.1 : Str)), .val (enc (x_30 : Str))]) (s0 := ()) C trivial (es_str (tv_var (i := 0) C.toDx rfl rfl rfl)) (Sub.same (Sub.same Sub.nil)) (fun s_28 => (tg_name (i := 1) C.toDx rfl rfl (.inl C.fn) (fun _ => rfl))) (fun x_30 s_28 => (hl_guardC trivial (tb_cmp cmp_ninS calm_ninS (tv_var (i := 1) C.toDx rfl rfl rfl) (tv_globS (R := .av/-p-/) C.toDx rfl B.n_LETTERS) rfl) (hl_ret trivial (tv_bl (R := .fr/-p-/))) (hl_end (Sub.same (Sub.any Sub.nil)))))) (fun s_36 => (hl_ret trivial (tv_chN (R := .fr/-p-/) (tv_int (R := .fr/-p-/)) (vt_cons ord_le (tv_b1 (R := .fr/-p-/) C.toDx b_lenS calm_okIf1 (tv_var (i := 0) C.toDx rfl rfl rfl) rfl B.n_len (by decide +kernel)) (vt_one ord_le (tv_int (R := .fr/-p-/))))))))

/-! ### is_field -/
abbrev N_is_field : List Str := ["pair"]
abbrev P_is_field : List Str := ["pair"]
abbrev sc_is_field : Scope := defScope (top 34)
abbrev A_is_field : Type := ((Int × Int) × Unit)
def t_is_field : A_is_field → List Dt := (tcons (α := (Int × Int)) tnil)
def b_is_field (r : A_is_field) : Res (Fl Unit Bool) := (((.ok 1 : Res Int)).bind fun c_42 => chT c_42 [(fun x y => decide (x ≤ y), ((.ok r.1 : Res (Int × Int))).bind fun v_40 => .ok v_40.1), (fun x y => decide (x ≤ y), ((.ok r.1 : Res (Int × Int))).bind fun v_41 => .ok v_41.2), (fun x y => decide (x ≤ y), (.ok 36 : Res Int))]).bind fun r_43 => .ok (.rt r_43)
def m_is_field (r : A_is_field) : Res Bool := (b_is_field r).bind (Fl.fin fun _ => .err)
theorem h_is_field {G : Gv} {X : Cx} {W : WX} (B : Bn G X.K X.mg) (C : Dd G X W N_is_field sc_is_field 0) (r : A_is_field) : HL G X W none false (entryΓ 1 (t_is_field r)) (defBody (top 34)) (fun _ : Unit => [.any]) (b_is_field r) :=
  by
  have z : entryΓ 1 (t_is_field r) = [.val (enc (r.1 : (Int × Int)))] := rfl
  rw [z]
  unfold b_is_field
  exact (hl_ret trivial (tv_chN (R := .fr/-p-/) (tv_int (R := .fr/-p-/)) (vt_cons ord_le (tv_ixT C.toDx (tv_var (i := 0) C.toDx rfl rfl rfl) (fun x : (Int × Int) => x.1) (fun _ => ⟨_, rfl, rfl⟩)) (vt_cons ord_le (tv_ixT C.toDx (tv_var (i := 0) C.toDx rfl rfl rfl) (fun x : (Int × Int) => x.2) (fun _ => ⟨_, rfl, rfl⟩)) (vt_one ord_le (tv_int (R := .fr/-p-/)))))))

/-! ### is_card -/
abbrev N_is_card : List Str := ["text", "sign"]
abbrev P_is_card : List Str := ["text"]
abbrev sc_is_card : Scope := defScope (top 11)
abbrev A_is_card : Type := (Str × Unit)
def t_is_card : A_is_card → List Dt := (tcons (α := Str) tnil)
def b_is_card (r : A_is_card) : Res (Fl Unit Bool) := ((((.ok r.1 : Res Str)).bind fun v_44 => lenS v_44).bind fun v_45 => ((.ok 40 : Res Int)).bind fun v_46 => .ok (!decide (v_45 = v_46))).bind fun z_47 => if z_47 = true then (((.ok false : Res Bool)).bind fun r_48 => .ok (.rt r_48) : Res (Fl Unit Bool)).bind Fl.cut else ((((.ok r.1 : Res Str)).bind fun v_51 => .ok (sgn v_51)).bind fun xs_57 => forR xs_57 (() : Unit) (fun (x_52 : Str) (s_50 : Unit) => (((.ok x_52 : Res Str)).bind fun v_53 => ((.ok " 0123456789ABCDEFGHIJKLMNOPQRSTUVWXYZ" : Res Str)).bind fun v_54 => ninS v_53 v_54).bind fun z_55 => if z_55 = true then (((.ok false : Res Bool)).bind fun r_56 => .ok (.rt r_56) : Res (Fl Unit Bool)).bind Fl.cut else .ok (.nx ())) : Res (Fl Unit Bool)).bind fun f => f.goL (fun s_58 => ((.ok true : Res Bool)).bind fun r_59 => .ok (.rt r_59))
def m_is_card (r : A_is_card) : Res Bool := (b_is_card r).bind (Fl.fin fun _ => .err)
theorem h_is_card {G : Gv} {X : Cx} {W : WX} (B : Bn G X.K X.mg) (C : Dd G X W N_is_card sc_is_card 0) (r : A_is_card) : HL G X W none false (entryΓ 2 (t_is_card r)) (defBody (top 11)) (fun _ : Unit => [.any, .any]) (b_is_card r) :=
  by
  have z : entryΓ 2 (t_is_card r) = [.val (enc (r.1 : Str)), .any] := rfl
  rw [z]
  unfold b_is_card
  exact (hl_guardC trivial (tb_cmp (cmp_ne C.toDx (by decide)) (fun _ _ _ h => nomatch h) (tv_b1 (R := .av/-p-/) C.toDx b_lenS calm_okIf1 (tv_var (i := 0) C.toDx rfl rfl rfl) rfl B.n_len (by decide +kernel)) (tv_globI (R := .av/-p-/) C.toDx rfl B.n_WIDTH) rfl) (hl_ret trivial (tv_bl (R := .fr/-p-/))) (hl_consL (G1 := (fun (s_49 : Unit) => [.val (enc (r.1 : Str)), .any])) (hs_for (Gs := (fun (s_49 : Unit) => [.val (enc (r.1 : Str)), .any])) (Γ1 := fun (s_50 : Unit) (x_52 : Str) => [.val (enc (r.1 : Str)), .val (enc (x_52 : Str))]) (s0 := ()) C trivial (es_str (tv_var (i := 0) C.toDx rfl rfl rfl)) (Sub.same (Sub.same Sub.nil)) (fun s_50 => (tg_name (i := 1) C.toDx rfl rfl (.inl C.fn) (fun _ => rfl))) (fun x_52 s_50 => (hl_guardC trivial (tb_cmp cmp_ninS calm_ninS (tv_var (i := 1) C.toDx rfl rfl rfl) (tv_globS (R := .av/-p-/) C.toDx rfl B.n_SIGNS) rfl) (hl_ret trivial (tv_bl (R := .fr/-p-/))) (hl_end (Sub.same (Sub.any Sub.nil)))))) (fun s_58 => (hl_ret trivial (tv_bl (R := .fr/-p-/))))))

/-! ### number_of -/
abbrev N_number_of : List Str := ["card", "field", "total", "sign"]
abbrev P_number_of : List Str := ["card", "field"]
abbrev sc_number_of : Scope := defScope (top 20)
abbrev A_number_of : Type := (Str × ((Int × Int) × Unit))
def t_number_of : A_number_of → List Dt := (tcons (α := Str) (tcons (α := (Int × Int)) tnil))
def b_number_of (r : A_number_of) : Res (Fl Unit Int) := ((.ok 0 : Res Int)).bind fun total_60 => ((((((.ok r.1 : Res Str)).bind fun a_65 => (((.ok r.2.1 : Res (Int × Int))).bind fun a_63 => ((.ok () : Res Unit)).bind fun r_64 => .ok (a_63, r_64)).bind fun r_66 => .ok (a_65, r_66)).bind m_part_of).bind fun v_67 => .ok (sgn v_67)).bind fun xs_79 => forR xs_79 ((total_60, ()) : (Int × Unit)) (fun (x_68 : Str) (s_62 : (Int × Unit)) => (((.ok 10 : Res Int)).bind fun v_70 => ((.ok s_62.1 : Res Int)).bind fun v_71 => mulR v_70 v_71).bind fun total_69 => (((.ok x_68 : Res Str)).bind fun v_72 => ((.ok "0123456789" : Res Str)).bind fun v_73 => inS v_72 v_73).bind fun z_74 => if z_74 = true then (((.ok total_69 : Res Int)).bind fun v_77 => (((.ok x_68 : Res Str)).bind fun v_76 => intS v_76).bind fun v_78 => .ok (v_77 + v_78)).bind fun total_75 => .ok (.nx (total_75, ())) else .ok (.nx (total_69, ()))) : Res (Fl (Int × Unit) Int)).bind fun f => f.goL (fun s_80 => ((.ok s_80.1 : Res Int)).bind fun r_81 => .ok (.rt r_81))
def m_number_of (r : A_number_of) : Res Int := (b_number_of r).bind (Fl.fin fun _ => .err)
theorem h_number_of {G : Gv} {X : Cx} {W : WX} (B : Bn G X.K X.mg) (C : Dd G X W N_number_of sc_number_of 1) (F_part_of : Fx G X false "part_of" (Rt t_part_of m_part_of) [] 1) (r : A_number_of) : HL G X W none false (entryΓ 4 (t_number_of r)) (defBody (top 20)) (fun _ : Unit => [.any, .any, .any, .any]) (b_number_of r) :=
  by
  have z : entryΓ 4 (t_number_of r) = [.val (enc (r.1 : Str)), .val (enc (r.2.1 : (Int × Int))), .any, .any] := rfl
  rw [z]
  unfold b_number_of
  exact (hl_set (i := 2) C trivial rfl rfl (tv_int (R := .av/-p-/)) (Γ' := fun (total_60 : Int) => [.val (enc (r.1 : Str)), .val (enc (r.2.1 : (Int × Int))), .val (enc (total_60 : Int)), .any]) (fun _ => rfl) fun total_60 => (hl_consL (G1 := (fun (s_61 : (Int × Unit)) => [.val (enc (r.1 : Str)), .val (enc (r.2.1 : (Int × Int))), .val (enc (s_61.1 : Int)), .any])) (hs_for (Gs := (fun (s_61 : (Int × Unit)) => [.val (enc (r.1 : Str)), .val (enc (r.2.1 : (Int × Int))), .val (enc (s_61.1 : Int)), .any])) (Γ1 := fun (s_62 : (Int × Unit)) (x_68 : Str) => [.val (enc (r.1 : Str)), .val (enc (r.2.1 : (Int × Int))), .val (enc (s_62.1 : Int)), .val (enc (x_68 : Str))]) (s0 := (total_60, ())) C trivial (es_str (tv_call C.toDx F_part_of (by decide) rfl (ea_cons (tv_any (tv_var (i := 0) C.toDx rfl rfl rfl)) (ea_cons (tv_any (tv_var (i := 1) C.toDx rfl rfl rfl)) (ea_nil (R := .top)))))) (Sub.same (Sub.same (Sub.same (Sub.same Sub.nil)))) (fun s_62 => (tg_name (i := 3) C.toDx rfl rfl (.inl C.fn) (fun _ => rfl))) (fun x_68 s_62 => (hl_set (i := 2) C trivial rfl rfl (tv_mul (R := .av/-p-/) (tv_int (R := .av/-p-/)) (tv_var (i := 2) C.toDx rfl rfl rfl)) (Γ' := fun (total_69 : Int) => [.val (enc (r.1 : Str)), .val (enc (r.2.1 : (Int × Int))), .val (enc (total_69 : Int)), .val (enc (x_68 : Str))]) (fun _ => rfl) fun total_69 => (hl_one (hs_if trivial (tb_cmp cmp_inS calm_inS (tv_var (i := 3) C.toDx rfl rfl rfl) (tv_globS (R := .av/-p-/) C.toDx rfl B.n_FIGURES) rfl) (hl_set (i := 2) C trivial rfl rfl (tv_add (R := .av/-p-/) (tv_var (i := 2) C.toDx rfl rfl rfl) (tv_t1 (R := .av/-p-/) C.toDx b_intS calm_intS (tv_var (i := 3) C.toDx rfl rfl rfl) rfl B.n_int (by decide +kernel))) (Γ' := fun (total_75 : Int) => [.val (enc (r.1 : Str)), .val (enc (r.2.1 : (Int × Int))), .val (enc (total_75 : Int)), .val (enc (x_68 : Str))]) (fun _ => rfl) fun total_75 => (hl_end (Sub.same (Sub.same (Sub.same (Sub.any Sub.nil)))))) (hl_end (Sub.same (Sub.same (Sub.same (Sub.any Sub.nil)))))))))) (fun s_80 => (hl_ret trivial (tv_flat (R := .fr) (tv_var (i := 2) C.toDx rfl rfl rfl))))))

/-! ### punch_in -/
abbrev N_punch_in : List Str := ["card", "field", "value", "first", "last", "signs", "k", "figure"]
abbrev P_punch_in : List Str := ["card", "field", "value"]
abbrev sc_punch_in : Scope := defScope (top 21)
abbrev A_punch_in : Type := (Str × ((Int × Int) × (Int × Unit)))
def t_punch_in : A_punch_in → List Dt := (tcons (α := Str) (tcons (α := (Int × Int)) (tcons (α := Int) tnil)))
def b_punch_in (r : A_punch_in) : Res (Fl Unit Str) := ((.ok r.2.1 : Res (Int × Int))).bind fun tp_82 => ((.ok "" : Res Str)).bind fun signs_86 => ((((((.ok tp_82.2 : Res Int)).bind fun v_89 => ((.ok tp_82.1 : Res Int)).bind fun v_90 => .ok (v_89 - v_90)).bind fun v_91 => ((.ok 1 : Res Int)).bind fun v_92 => .ok (v_91 + v_92)).bind fun v_93 => rngR 0 v_93).bind fun xs_105 => forR xs_105 ((r.2.2.1, (signs_86, ())) : (Int × (Str × Unit))) (fun (x_94 : Int) (s_88 : (Int × (Str × Unit))) => (((.ok s_88.1 : Res Int)).bind fun v_95 => ((.ok 10 : Res Int)).bind fun v_96 => divmodR v_95 v_96).bind fun tp_97 => ((((.ok tp_97.2 : Res Int)).bind fun v_102 => strI v_102).bind fun v_103 => ((.ok s_88.2.1 : Res Str)).bind fun v_104 => catS v_103 v_104).bind fun signs_101 => .ok (.nx (tp_97.1, (signs_101, ())))) : Res (Fl (Int × (Str × Unit)) Str)).bind fun f => f.goL (fun s_106 => (((((.ok r.1 : Res Str)).bind fun v_110 => ((.ok none : Res (Option Int))).bind fun v_111 => ((((.ok tp_82.1 : Res Int)).bind fun v_107 => ((.ok 1 : Res Int)).bind fun v_108 => .ok (v_107 - v_108)).bind fun v_109 => .ok (some v_109)).bind fun v_112 => cutR v_110 v_111 v_112).bind fun v_113 => ((.ok s_106.2.1 : Res Str)).bind fun v_114 => catS v_113 v_114).bind fun v_119 => (((.ok r.1 : Res Str)).bind fun v_116 => (((.ok tp_82.2 : Res Int)).bind fun v_115 => .ok (some v_115)).bind fun v_117 => ((.ok none : Res (Option Int))).bind fun v_118 => cutR v_116 v_117 v_118).bind fun v_120 => catS v_119 v_120).bind fun r_121 => .ok (.rt r_121))
def m_punch_in (r : A_punch_in) : Res Str := (b_punch_in r).bind (Fl.fin fun _ => .err)
theorem h_punch_in {G : Gv} {X : Cx} {W : WX} (B : Bn G X.K X.mg) (C : Dd G X W N_punch_in sc_punch_in 0) (r : A_punch_in) : HL G X W none false (entryΓ 8 (t_punch_in r)) (defBody (top 21)) (fun _ : Unit => [.any, .any, .any, .any, .any, .any, .any, .any]) (b_punch_in r) :=
  by
  have z : entryΓ 8 (t_punch_in r) = [.val (enc (r.1 : Str)), .val (enc (r.2.1 : (Int × Int))), .val (enc (r.2.2.1 : Int)), .any, .any, .any, .any, .any] := rfl
  rw [z]
  unfold b_punch_in
  exact (hl_tgt C trivial (tv_var (i := 1) C.toDx rfl rfl rfl) (tg_tup C.toDx (tgs_cons (Γ1 := fun (t_83 : Int) => [.val (enc (r.1 : Str)), .val (enc (r.2.1 : (Int × Int))), .val (enc (r.2.2.1 : Int)), .val (enc (t_83 : Int)), .any, .any, .any, .any]) (tg_name (i := 3) C.toDx rfl rfl (.inl C.fn) (fun _ => rfl)) fun t_83 => (tgs_cons (Γ1 := fun (t_84 : Int) => [.val (enc (r.1 : Str)), .val (enc (r.2.1 : (Int × Int))), .val (enc (r.2.2.1 : Int)), .val (enc (t_83 : Int)), .val (enc (t_84 : Int)), .any, .any, .any]) (tg_name (i := 4) C.toDx rfl rfl (.inl C.fn) (fun _ => rfl)) fun t_84 => tgs_nil)) (fun p_85 : (Int × Int) => (p_85.1, p_85.2, ())) (fun _ => rfl) (fun _ => rfl) (fun _ => rfl)) (Γ' := fun (tp_82 : (Int × Int)) => [.val (enc (r.1 : Str)), .val (enc (r.2.1 : (Int × Int))), .val (enc (r.2.2.1 : Int)), .val (enc (tp_82.1 : Int)), .val (enc (tp_82.2 : Int)), .any, .any, .any]) fun tp_82 => (hl_set (i := 5) C trivial rfl rfl (tv_str (R := .av/-p-/)) (Γ' := fun (signs_86 : Str) => [.val (enc (r.1 : Str)), .val (enc (r.2.1 : (Int × Int))), .val (enc (r.2.2.1 : Int)), .val (enc (tp_82.1 : Int)), .val (enc (tp_82.2 : Int)), .val (enc (signs_86 : Str)), .any, .any]) (fun _ => rfl) fun signs_86 => (hl_consL (G1 := (fun (s_87 : (Int × (Str × Unit))) => [.val (enc (r.1 : Str)), .val (enc (r.2.1 : (Int × Int))), .val (enc (s_87.1 : Int)), .val (enc (tp_82.1 : Int)), .val (enc (tp_82.2 : Int)), .val (enc (s_87.2.1 : Str)), .any, .any])) (hs_for (Gs := (fun (s_87 : (Int × (Str × Unit))) => [.val (enc (r.1 : Str)), .val (enc (r.2.1 : (Int × Int))), .val (enc (s_87.1 : Int)), .val (enc (tp_82.1 : Int)), .val (enc (tp_82.2 : Int)), .val (enc (s_87.2.1 : Str)), .any, .any])) (Γ1 := fun (s_88 : (Int × (Str × Unit))) (x_94 : Int) => [.val (enc (r.1 : Str)), .val (enc (r.2.1 : (Int × Int))), .val (enc (s_88.1 : Int)), .val (enc (tp_82.1 : Int)), .val (enc (tp_82.2 : Int)), .val (enc (s_88.2.1 : Str)), .val (enc (x_94 : Int)), .any]) (s0 := (r.2.2.1, (signs_86, ()))) C trivial (es_rng1 C.toDx (tv_add (R := .av/-p-/) (tv_sub (R := .av/-p-/) (tv_var (i := 4) C.toDx rfl rfl rfl) (tv_var (i := 3) C.toDx rfl rfl rfl)) (tv_int (R := .av/-p-/))) rfl B.n_range) (Sub.same (Sub.same (Sub.same (Sub.same (Sub.same (Sub.same (Sub.same (Sub.same Sub.nil)))))))) (fun s_88 => (tg_name (i := 6) C.toDx rfl rfl (.inl C.fn) (fun _ => rfl))) (fun x_94 s_88 => (hl_tgt C trivial (tv_divmod (R := .av/-p-/) C.toDx (tv_var (i := 2) C.toDx rfl rfl rfl) (tv_int (R := .av/-p-/)) rfl B.n_divmod) (tg_tup C.toDx (tgs_cons (Γ1 := fun (t_98 : Int) => [.val (enc (r.1 : Str)), .val (enc (r.2.1 : (Int × Int))), .val (enc (t_98 : Int)), .val (enc (tp_82.1 : Int)), .val (enc (tp_82.2 : Int)), .val (enc (s_88.2.1 : Str)), .val (enc (x_94 : Int)), .any]) (tg_name (i := 2) C.toDx rfl rfl (.inl C.fn) (fun _ => rfl)) fun t_98 => (tgs_cons (Γ1 := fun (t_99 : Int) => [.val (enc (r.1 : Str)), .val (enc (r.2.1 : (Int × Int))), .val (enc (t_98 : Int)), .val (enc (tp_82.1 : Int)), .val (enc (tp_82.2 : Int)), .val (enc (s_88.2.1 : Str)), .val (enc (x_94 : Int)), .val (enc (t_99 : Int))]) (tg_name (i := 7) C.toDx rfl rfl (.inl C.fn) (fun _ => rfl)) fun t_99 => tgs_nil)) (fun p_100 : (Int × Int) => (p_100.1, p_100.2, ())) (fun _ => rfl) (fun _ => rfl) (fun _ => rfl)) (Γ' := fun (tp_97 : (Int × Int)) => [.val (enc (r.1 : Str)), .val (enc (r.2.1 : (Int × Int))), .val (enc (tp_97.1 : Int)), .val (enc (tp_82.1 : Int)), .val (enc (tp_82.2 : Int)), .val (enc (s_88.2.1 : Str)), .val (enc (x_94 : Int)), .val (enc (tp_97.2 : Int))]) fun tp_97 => (hl_set (i := 5) C trivial rfl rfl (tv_catS (R := .av/-p-/) (tv_t1 (R := .av/-p-/) C.toDx b_str calm_okIf1 (tv_var (i := 7) C.toDx rfl rfl rfl) rfl B.n_str (by decide +kernel)) (tv_var (i := 5) C.toDx rfl rfl rfl)) (Γ' := fun (signs_101 : Str) => [.val (enc (r.1 : Str)), .val (enc (r.2.1 : (Int × Int))), .val (enc (tp_97.1 : Int)), .val (enc (tp_82.1 : Int)), .val (enc (tp_82.2 : Int)), .val (enc (signs_101 : Str)), .val (enc (x_94 : Int)), .val (enc (tp_97.2 : Int))]) (fun _ => rfl) fun signs_101 => (hl_end (Sub.same (Sub.same (Sub.same (Sub.same (Sub.same (Sub.same (Sub.any (Sub.any Sub.nil))))))))))))) (fun s_106 => (hl_ret trivial (tv_catS (R := .fr/-p-/) (tv_catS (R := .fr/-p-/) (tv_slS (R := .fr/-p-/) (tv_var (i := 0) C.toDx rfl rfl rfl) eo_none (eo_some (tv_sub (R := .fr/-p-/) (tv_var (i := 3) C.toDx rfl rfl rfl) (tv_int (R := .fr/-p-/))))) (tv_var (i := 5) C.toDx rfl rfl rfl)) (tv_slS (R := .fr/-p-/) (tv_var (i := 0) C.toDx rfl rfl rfl) (eo_some (tv_var (i := 4) C.toDx rfl rfl rfl)) eo_none)))))))

/-! ### work_card -/
abbrev N_work_card : List Str := ["card", "work", "to", "one", "word", "other", "value"]
abbrev P_work_card : List Str := ["card", "work"]
abbrev sc_work_card : Scope := defScope (top 23)
abbrev A_work_card : Type := (Str × ((T4 (Int × Int) (Int × Int) Str (Int × Int)) × Unit))
def t_work_card : A_work_card → List Dt := (tcons (α := Str) (tcons (α := (T4 (Int × Int) (Int × Int) Str (Int × Int))) tnil))
def b_work_card (r : A_work_card) : Res (Fl Unit Str) := ((.ok r.2.1 : Res (T4 (Int × Int) (Int × Int) Str (Int × Int)))).bind fun tp_122 => ((((.ok r.1 : Res Str)).bind fun a_131 => (((.ok tp_122.b : Res (Int × Int))).bind fun a_129 => ((.ok () : Res Unit)).bind fun r_130 => .ok (a_129, r_130)).bind fun r_132 => .ok (a_131, r_132)).bind m_number_of).bind fun value_128 => ((((.ok tp_122.c : Res Str)).bind fun v_133 => ((.ok "plus" : Res Str)).bind fun v_134 => .ok (decide (v_133 = v_134))).bind fun z_135 => if z_135 = true then (((.ok value_128 : Res Int)).bind fun v_149 => ((((.ok r.1 : Res Str)).bind fun a_147 => (((.ok tp_122.d : Res (Int × Int))).bind fun a_145 => ((.ok () : Res Unit)).bind fun r_146 => .ok (a_145, r_146)).bind fun r_148 => .ok (a_147, r_148)).bind m_number_of).bind fun v_150 => .ok (v_149 + v_150)).bind fun value_144 => .ok (.nx (value_144, ())) else (((.ok tp_122.c : Res Str)).bind fun v_151 => ((.ok "less" : Res Str)).bind fun v_152 => .ok (decide (v_151 = v_152))).bind fun z_153 => if z_153 = true then (((.ok value_128 : Res Int)).bind fun v_159 => ((((.ok r.1 : Res Str)).bind fun a_157 => (((.ok tp_122.d : Res (Int × Int))).bind fun a_155 => ((.ok () : Res Unit)).bind fun r_156 => .ok (a_155, r_156)).bind fun r_158 => .ok (a_157, r_158)).bind m_number_of).bind fun v_160 => .ok (v_159 - v_160)).bind fun value_154 => .ok (.nx (value_154, ())) else (((.ok value_128 : Res Int)).bind fun v_166 => ((((.ok r.1 : Res Str)).bind fun a_164 => (((.ok tp_122.d : Res (Int × Int))).bind fun a_162 => ((.ok () : Res Unit)).bind fun r_163 => .ok (a_162, r_163)).bind fun r_165 => .ok (a_164, r_165)).bind m_number_of).bind fun v_167 => mulR v_166 v_167).bind fun value_161 => .ok (.nx (value_161, ())) : Res (Fl (Int × Unit) Str)).bind fun f => f.goL (fun s_168 => ((((.ok r.1 : Res Str)).bind fun a_173 => (((.ok tp_122.a : Res (Int × Int))).bind fun a_171 => (((.ok s_168.1 : Res Int)).bind fun a_169 => ((.ok () : Res Unit)).bind fun r_170 => .ok (a_169, r_170)).bind fun r_172 => .ok (a_171, r_172)).bind fun r_174 => .ok (a_173, r_174)).bind m_punch_in).bind fun r_175 => .ok (.rt r_175))
def m_work_card (r : A_work_card) : Res Str := (b_work_card r).bind (Fl.fin fun _ => .err)
theorem h_work_card {G : Gv} {X : Cx} {W : WX} (B : Bn G X.K X.mg) (C : Dd G X W N_work_card sc_work_card 2) (F_number_of : Fx G X false "number_of" (Rt t_number_of m_number_of) [] 2) (F_punch_in : Fx G X false "punch_in" (Rt t_punch_in m_punch_in) [] 1) (r : A_work_card) : HL G X W none false (entryΓ 7 (t_work_card r)) (defBody (top 23)) (fun _ : Unit => [.any, .any, .any, .any, .any, .any, .any]) (b_work_card r) :=
  by
  have z : entryΓ 7 (t_work_card r) = [.val (enc (r.1 : Str)), .val (enc (r.2.1 : (T4 (Int × Int) (Int × Int) Str (Int × Int)))), .any, .any, .any, .any, .any] := rfl
  rw [z]
  unfold b_work_card
  exact (hl_tgt C trivial (tv_var (i := 1) C.toDx rfl rfl rfl) (tg_tup C.toDx (tgs_cons (Γ1 := fun (t_123 : (Int × Int)) => [.val (enc (r.1 : Str)), .val (enc (r.2.1 : (T4 (Int × Int) (Int × Int) Str (Int × Int)))), .val (enc (t_123 : (Int × Int))), .any, .any, .any, .any]) (tg_name (i := 2) C.toDx rfl rfl (.inl C.fn) (fun _ => rfl)) fun t_123 => (tgs_cons (Γ1 := fun (t_124 : (Int × Int)) => [.val (enc (r.1 : Str)), .val (enc (r.2.1 : (T4 (Int × Int) (Int × Int) Str (Int × Int)))), .val (enc (t_123 : (Int × Int))), .val (enc (t_124 : (Int × Int))), .any, .any, .any]) (tg_name (i := 3) C.toDx rfl rfl (.inl C.fn) (fun _ => rfl)) fun t_124 => (tgs_cons (Γ1 := fun (t_125 : Str) => [.val (enc (r.1 : Str)), .val (enc (r.2.1 : (T4 (Int × Int) (Int × Int) Str (Int × Int)))), .val (enc (t_123 : (Int × Int))), .val (enc (t_124 : (Int × Int))), .val (enc (t_125 : Str)), .any, .any]) (tg_name (i := 4) C.toDx rfl rfl (.inl C.fn) (fun _ => rfl)) fun t_125 => (tgs_cons (Γ1 := fun (t_126 : (Int × Int)) => [.val (enc (r.1 : Str)), .val (enc (r.2.1 : (T4 (Int × Int) (Int × Int) Str (Int × Int)))), .val (enc (t_123 : (Int × Int))), .val (enc (t_124 : (Int × Int))), .val (enc (t_125 : Str)), .val (enc (t_126 : (Int × Int))), .any]) (tg_name (i := 5) C.toDx rfl rfl (.inl C.fn) (fun _ => rfl)) fun t_126 => tgs_nil)))) (fun p_127 : (T4 (Int × Int) (Int × Int) Str (Int × Int)) => (p_127.a, p_127.b, p_127.c, p_127.d, ())) (fun _ => rfl) (fun _ => rfl) (fun _ => rfl)) (Γ' := fun (tp_122 : (T4 (Int × Int) (Int × Int) Str (Int × Int))) => [.val (enc (r.1 : Str)), .val (enc (r.2.1 : (T4 (Int × Int) (Int × Int) Str (Int × Int)))), .val (enc (tp_122.a : (Int × Int))), .val (enc (tp_122.b : (Int × Int))), .val (enc (tp_122.c : Str)), .val (enc (tp_122.d : (Int × Int))), .any]) fun tp_122 => (hl_set (i := 6) C trivial rfl rfl (tv_flat (R := .av) (tv_call C.toDx F_number_of (by decide) rfl (ea_cons (tv_any (tv_var (i := 0) C.toDx rfl rfl rfl)) (ea_cons (tv_any (tv_var (i := 3) C.toDx rfl rfl rfl)) (ea_nil (R := .top)))))) (Γ' := fun (value_128 : Int) => [.val (enc (r.1 : Str)), .val (enc (r.2.1 : (T4 (Int × Int) (Int × Int) Str (Int × Int)))), .val (enc (tp_122.a : (Int × Int))), .val (enc (tp_122.b : (Int × Int))), .val (enc (tp_122.c : Str)), .val (enc (tp_122.d : (Int × Int))), .val (enc (value_128 : Int))]) (fun _ => rfl) fun value_128 => (hl_consL (G1 := (fun (s_143 : (Int × Unit)) => [.val (enc (r.1 : Str)), .val (enc (r.2.1 : (T4 (Int × Int) (Int × Int) Str (Int × Int)))), .val (enc (tp_122.a : (Int × Int))), .val (enc (tp_122.b : (Int × Int))), .val (enc (tp_122.c : Str)), .val (enc (tp_122.d : (Int × Int))), .val (enc (s_143.1 : Int))])) (hs_if trivial (tb_cmp (cmp_eq C.toDx (by decide)) (fun _ _ _ h => nomatch h) (tv_var (i := 4) C.toDx rfl rfl rfl) (tv_str (R := .av/-p-/)) rfl) (hl_set (i := 6) C trivial rfl rfl (tv_add (R := .av/-p-/) (tv_var (i := 6) C.toDx rfl rfl rfl) (tv_call C.toDx F_number_of (by decide) rfl (ea_cons (tv_any (tv_var (i := 0) C.toDx rfl rfl rfl)) (ea_cons (tv_any (tv_var (i := 5) C.toDx rfl rfl rfl)) (ea_nil (R := .top)))))) (Γ' := fun (value_144 : Int) => [.val (enc (r.1 : Str)), .val (enc (r.2.1 : (T4 (Int × Int) (Int × Int) Str (Int × Int)))), .val (enc (tp_122.a : (Int × Int))), .val (enc (tp_122.b : (Int × Int))), .val (enc (tp_122.c : Str)), .val (enc (tp_122.d : (Int × Int))), .val (enc (value_144 : Int))]) (fun _ => rfl) fun value_144 => (hl_end (Sub.same (Sub.same (Sub.same (Sub.same (Sub.same (Sub.same (Sub.same Sub.nil))))))))) (hl_one (hs_if trivial (tb_cmp (cmp_eq C.toDx (by decide)) (fun _ _ _ h => nomatch h) (tv_var (i := 4) C.toDx rfl rfl rfl) (tv_str (R := .av/-p-/)) rfl) (hl_set (i := 6) C trivial rfl rfl (tv_sub (R := .av/-p-/) (tv_var (i := 6) C.toDx rfl rfl rfl) (tv_call C.toDx F_number_of (by decide) rfl (ea_cons (tv_any (tv_var (i := 0) C.toDx rfl rfl rfl)) (ea_cons (tv_any (tv_var (i := 5) C.toDx rfl rfl rfl)) (ea_nil (R := .top)))))) (Γ' := fun (value_154 : Int) => [.val (enc (r.1 : Str)), .val (enc (r.2.1 : (T4 (Int × Int) (Int × Int) Str (Int × Int)))), .val (enc (tp_122.a : (Int × Int))), .val (enc (tp_122.b : (Int × Int))), .val (enc (tp_122.c : Str)), .val (enc (tp_122.d : (Int × Int))), .val (enc (value_154 : Int))]) (fun _ => rfl) fun value_154 => (hl_end (Sub.same (Sub.same (Sub.same (Sub.same (Sub.same (Sub.same (Sub.same Sub.nil))))))))) (hl_set (i := 6) C trivial rfl rfl (tv_mul (R := .av/-p-/) (tv_var (i := 6) C.toDx rfl rfl rfl) (tv_call C.toDx F_number_of (by decide) rfl (ea_cons (tv_any (tv_var (i := 0) C.toDx rfl rfl rfl)) (ea_cons (tv_any (tv_var (i := 5) C.toDx rfl rfl rfl)) (ea_nil (R := .top)))))) (Γ' := fun (value_161 : Int) => [.val (enc (r.1 : Str)), .val (enc (r.2.1 : (T4 (Int × Int) (Int × Int) Str (Int × Int)))), .val (enc (tp_122.a : (Int × Int))), .val (enc (tp_122.b : (Int × Int))), .val (enc (tp_122.c : Str)), .val (enc (tp_122.d : (Int × Int))), .val (enc (value_161 : Int))]) (fun _ => rfl) fun value_161 => (hl_end (Sub.same (Sub.same (Sub.same (Sub.same (Sub.same (Sub.same (Sub.same Sub.nil)))))))))))) (fun s_168 => (hl_ret trivial (tv_flat (R := .fr) (tv_call C.toDx F_punch_in (by decide) rfl (ea_cons (tv_any (tv_var (i := 0) C.toDx rfl rfl rfl)) (ea_cons (tv_any (tv_var (i := 2) C.toDx rfl rfl rfl)) (ea_cons (tv_any (tv_var (i := 6) C.toDx rfl rfl rfl)) (ea_nil (R := .top))))))))))))

/-! ### is_picked -/
abbrev N_is_picked : List Str := ["card", "picks", "field", "text"]
abbrev P_is_picked : List Str := ["card", "picks"]
abbrev sc_is_picked : Scope := defScope (top 27)
abbrev A_is_picked : Type := (Str × ((List ((Int × Int) × Str)) × Unit))
def t_is_picked : A_is_picked → List Dt := (tcons (α := Str) (tcons (α := (List ((Int × Int) × Str))) tnil))
def b_is_picked (r : A_is_picked) : Res (Fl Unit Bool) := (((.ok r.2.1 : Res (List ((Int × Int) × Str)))).bind fun xs_190 => forR xs_190 (() : Unit) (fun (x_178 : ((Int × Int) × Str)) (s_177 : Unit) => (((((.ok r.1 : Res Str)).bind fun a_184 => (((.ok x_178.1 : Res (Int × Int))).bind fun a_182 => ((.ok () : Res Unit)).bind fun r_183 => .ok (a_182, r_183)).bind fun r_185 => .ok (a_184, r_185)).bind m_part_of).bind fun v_186 => ((.ok x_178.2 : Res Str)).bind fun v_187 => .ok (!decide (v_186 = v_187))).bind fun z_188 => if z_188 = true then (((.ok false : Res Bool)).bind fun r_189 => .ok (.rt r_189) : Res (Fl Unit Bool)).bind Fl.cut else .ok (.nx ())) : Res (Fl Unit Bool)).bind fun f => f.goL (fun s_191 => ((.ok true : Res Bool)).bind fun r_192 => .ok (.rt r_192))
def m_is_picked (r : A_is_picked) : Res Bool := (b_is_picked r).bind (Fl.fin fun _ => .err)
theorem h_is_picked {G : Gv} {X : Cx} {W : WX} (B : Bn G X.K X.mg) (C : Dd G X W N_is_picked sc_is_picked 1) (F_part_of : Fx G X false "part_of" (Rt t_part_of m_part_of) [] 1) (r : A_is_picked) : HL G X W none false (entryΓ 4 (t_is_picked r)) (defBody (top 27)) (fun _ : Unit => [.any, .any, .any, .any]) (b_is_picked r) :=
  by
  have z : entryΓ 4 (t_is_picked r) = [.val (enc (r.1 : Str)), .val (enc (r.2.1 : (List ((Int × Int) × Str)))), .any, .any] := rfl
  rw [z]
  unfold b_is_picked
  exact (hl_consL (G1 := (fun (s_176 : Unit) => [.val (enc (r.1 : Str)), .val (enc (r.2.1 : (List ((Int × Int) × Str)))), .any, .any])) (hs_for (Gs := (fun (s_176 : Unit) => [.val (enc (r.1 : Str)), .val (enc (r.2.1 : (List ((Int × Int) × Str)))), .any, .any])) (Γ1 := fun (s_177 : Unit) (x_178 : ((Int × Int) × Str)) => [.val (enc (r.1 : Str)), .val (enc (r.2.1 : (List ((Int × Int) × Str)))), .val (enc (x_178.1 : (Int × Int))), .val (enc (x_178.2 : Str))]) (s0 := ()) C trivial (es_list (tv_var (i := 1) C.toDx rfl rfl rfl)) (Sub.same (Sub.same (Sub.same (Sub.same Sub.nil)))) (fun s_177 => (tg_tup C.toDx (tgs_cons (Γ1 := fun (t_179 : (Int × Int)) => [.val (enc (r.1 : Str)), .val (enc (r.2.1 : (List ((Int × Int) × Str)))), .val (enc (t_179 : (Int × Int))), .any]) (tg_name (i := 2) C.toDx rfl rfl (.inl C.fn) (fun _ => rfl)) fun t_179 => (tgs_cons (Γ1 := fun (t_180 : Str) => [.val (enc (r.1 : Str)), .val (enc (r.2.1 : (List ((Int × Int) × Str)))), .val (enc (t_179 : (Int × Int))), .val (enc (t_180 : Str))]) (tg_name (i := 3) C.toDx rfl rfl (.inl C.fn) (fun _ => rfl)) fun t_180 => tgs_nil)) (fun p_181 : ((Int × Int) × Str) => (p_181.1, p_181.2, ())) (fun _ => rfl) (fun _ => rfl) (fun _ => rfl))) (fun x_178 s_177 => (hl_guardC trivial (tb_cmp (cmp_ne C.toDx (by decide)) (fun _ _ _ h => nomatch h) (tv_call C.toDx F_part_of (by decide) rfl (ea_cons (tv_any (tv_var (i := 0) C.toDx rfl rfl rfl)) (ea_cons (tv_any (tv_var (i := 2) C.toDx rfl rfl rfl)) (ea_nil (R := .top))))) (tv_var (i := 3) C.toDx rfl rfl rfl) rfl) (hl_ret trivial (tv_bl (R := .fr/-p-/))) (hl_end (Sub.same (Sub.same (Sub.any (Sub.any Sub.nil)))))))) (fun s_191 => (hl_ret trivial (tv_bl (R := .fr/-p-/)))))

/-! ### first_of_each -/
abbrev N_first_of_each : List Str := ["deck", "field", "found", "card"]
abbrev P_first_of_each : List Str := ["deck", "field"]
abbrev sc_first_of_each : Scope := defScope (top 28)
abbrev A_first_of_each : Type := ((List Str) × ((Int × Int) × Unit))
def t_first_of_each : A_first_of_each → List Dt := (tcons (α := (List Str)) (tcons (α := (Int × Int)) tnil))
def b_first_of_each (r : A_first_of_each) : Res (Fl Unit (List Str)) := (((.ok r.1 : Res (List Str))).bind fun xs_214 => forR xs_214 ((([] : List Str), ()) : ((List Str) × Unit)) (fun (x_195 : Str) (s_194 : ((List Str) × Unit)) => (orR (((.ok s_194.1 : Res (List Str))).bind fun v_196 => (((.ok () : Res Unit).bind fun r => .ok ([] : (List Str)))).bind fun v_197 => .ok (decide (v_196 = v_197))) (((((.ok x_195 : Res Str)).bind fun a_200 => (((.ok r.2.1 : Res (Int × Int))).bind fun a_198 => ((.ok () : Res Unit)).bind fun r_199 => .ok (a_198, r_199)).bind fun r_201 => .ok (a_200, r_201)).bind m_part_of).bind fun v_209 => (((((.ok s_194.1 : Res (List Str))).bind fun v_203 => (((.ok 1 : Res Int)).bind fun v_202 => .ok (-v_202)).bind fun v_204 => getI v_203 v_204).bind fun a_207 => (((.ok r.2.1 : Res (Int × Int))).bind fun a_205 => ((.ok () : Res Unit)).bind fun r_206 => .ok (a_205, r_206)).bind fun r_208 => .ok (a_207, r_208)).bind m_part_of).bind fun v_210 => .ok (!decide (v_209 = v_210)))).bind fun z_211 => if z_211 = true then ((.ok x_195 : Res Str)).bind fun a_213 => chk (s_194.1.length < SZ) ((fun (found_212 : (List Str)) => .ok (.nx (found_212, ()))) (s_194.1 ++ [a_213])) else .ok (.nx (s_194.1, ()))) : Res (Fl ((List Str) × Unit) (List Str))).bind fun f => f.goL (fun s_215 => (.ok s_215.1 : Res (List Str)).bind fun r_216 => .ok (.rt r_216))
def m_first_of_each (r : A_first_of_each) : Res (List Str) := (b_first_of_each r).bind (Fl.fin fun _ => .err)
theorem h_first_of_each {G : Gv} {X : Cx} {W : WX} (B : Bn G X.K X.mg) (C : Dd G X W N_first_of_each sc_first_of_each 1) (F_part_of : Fx G X false "part_of" (Rt t_part_of m_part_of) [] 1) (r : A_first_of_each) : HL G X W none false (entryΓ 4 (t_first_of_each r)) (defBody (top 28)) (fun _ : Unit => [.any, .any, .any, .any]) (b_first_of_each r) :=
  by
  have z : entryΓ 4 (t_first_of_each r) = [.val (enc (r.1 : (List Str))), .val (enc (r.2.1 : (Int × Int))), .any, .any] := rfl
  rw [z]
  unfold b_first_of_each
  exact (hl_nilL (i := 2) C rfl rfl (by decide) (Nat.le_of_ble_eq_true rfl) (Γ' := [.val (enc (r.1 : (List Str))), .val (enc (r.2.1 : (Int × Int))), .own (.l ((([] : List Str) : List Str).map enc)), .any]) rfl (hl_consL (G1 := (fun (s_193 : ((List Str) × Unit)) => [.val (enc (r.1 : (List Str))), .val (enc (r.2.1 : (Int × Int))), .own (.l ((s_193.1 : List Str).map enc)), .any])) (hs_for (Gs := (fun (s_193 : ((List Str) × Unit)) => [.val (enc (r.1 : (List Str))), .val (enc (r.2.1 : (Int × Int))), .own (.l ((s_193.1 : List Str).map enc)), .any])) (Γ1 := fun (s_194 : ((List Str) × Unit)) (x_195 : Str) => [.val (enc (r.1 : (List Str))), .val (enc (r.2.1 : (Int × Int))), .own (.l ((s_194.1 : List Str).map enc)), .val (enc (x_195 : Str))]) (s0 := (([] : List Str), ())) C trivial (es_list (tv_var (i := 0) C.toDx rfl rfl rfl)) (Sub.same (Sub.same (Sub.same (Sub.same Sub.nil)))) (fun s_194 => (tg_name (i := 3) C.toDx rfl rfl (.inl C.fn) (fun _ => rfl))) (fun x_195 s_194 => (hl_one (hs_if trivial (tb_of (to_or (tb_cmp (cmp_eq C.toDx (by decide)) (fun _ _ _ h => nomatch h) (tv_vO (i := 2) C.toDx rfl rfl rfl) (tv_list (ea_nil (R := .av/-p-/)) (fun r => ([] : (List Str))) (fun _ => rfl) (by decide) (fun _ => rfl)) rfl) (to_or1 (tb_cmp (cmp_ne C.toDx (by decide)) (fun _ _ _ h => nomatch h) (tv_call C.toDx F_part_of (by decide) rfl (ea_cons (tv_any (tv_var (i := 3) C.toDx rfl rfl rfl)) (ea_cons (tv_any (tv_var (i := 1) C.toDx rfl rfl rfl)) (ea_nil (R := .top))))) (tv_call C.toDx F_part_of (by decide) rfl (ea_cons (tv_ix C.toDx (tv_vO (i := 2) C.toDx rfl rfl rfl) (tv_neg (R := .av/-p-/) (tv_int (R := .av/-p-/)))) (ea_cons (tv_any (tv_var (i := 1) C.toDx rfl rfl rfl)) (ea_nil (R := .top))))) rfl)))) (hl_app (i := 2) (xs := s_194.1) (M := fun (found_212 : (List Str)) => .ok (.nx (found_212, ()))) C.toDx trivial rfl rfl rfl (tv_var (i := 3) C.toDx rfl rfl rfl) (Γ' := fun (found_212 : (List Str)) => [.val (enc (r.1 : (List Str))), .val (enc (r.2.1 : (Int × Int))), .own (.l ((found_212 : List Str).map enc)), .val (enc (x_195 : Str))]) (fun _ => rfl) fun found_212 => (hl_end (Sub.same (Sub.same (Sub.same (Sub.any Sub.nil)))))) (hl_end (Sub.same (Sub.same (Sub.same (Sub.any Sub.nil))))))))) (fun s_215 => (hl_ret trivial (tv_ownF (i := 2) C.toDx rfl rfl rfl rfl rfl)))))

/-! ### rank_of -/
abbrev N_rank_of : List Str := ["sign"]
abbrev P_rank_of : List Str := ["sign"]
abbrev sc_rank_of : Scope := defScope (top 10)
abbrev A_rank_of : Type := (Str × Unit)
def t_rank_of : A_rank_of → List Dt := (tcons (α := Str) tnil)
def b_rank_of (r : A_rank_of) : Res (Fl Unit Int) := (orR ((((.ok r.1 : Res Str)).bind fun v_217 => lenS v_217).bind fun v_218 => ((.ok 1 : Res Int)).bind fun v_219 => .ok (!decide (v_218 = v_219))) (((.ok r.1 : Res Str)).bind fun v_220 => ((.ok " 0123456789ABCDEFGHIJKLMNOPQRSTUVWXYZ" : Res Str)).bind fun v_221 => ninS v_220 v_221)).bind fun z_222 => if z_222 = true then (.err : Res (Fl Unit Int)).bind Fl.cut else (((.ok " 0123456789ABCDEFGHIJKLMNOPQRSTUVWXYZ" : Res Str)).bind fun v_223 => ((.ok r.1 : Res Str)).bind fun v_224 => .ok (Txt.find v_223 v_224)).bind fun r_225 => .ok (.rt r_225)
def m_rank_of (r : A_rank_of) : Res Int := (b_rank_of r).bind (Fl.fin fun _ => .err)
theorem h_rank_of {G : Gv} {X : Cx} {W : WX} (B : Bn G X.K X.mg) (C : Dd G X W N_rank_of sc_rank_of 0) (r : A_rank_of) : HL G X W none false (entryΓ 1 (t_rank_of r)) (defBody (top 10)) (fun _ : Unit => [.any]) (b_rank_of r) :=
  by
  have z : entryΓ 1 (t_rank_of r) = [.val (enc (r.1 : Str))] := rfl
  rw [z]
  unfold b_rank_of
  exact (hl_guardC trivial (tb_of (to_or (tb_cmp (cmp_ne C.toDx (by decide)) (fun _ _ _ h => nomatch h) (tv_b1 (R := .av/-p-/) C.toDx b_lenS calm_okIf1 (tv_var (i := 0) C.toDx rfl rfl rfl) rfl B.n_len (by decide +kernel)) (tv_int (R := .av/-p-/)) rfl) (to_or1 (tb_cmp cmp_ninS calm_ninS (tv_var (i := 0) C.toDx rfl rfl rfl) (tv_globS (R := .av/-p-/) C.toDx rfl B.n_SIGNS) rfl)))) hl_err (hl_ret trivial (tv_m1 (R := .fr/-p-/) C.toDx m_find (fun _ _ _ h => nomatch h) (tv_globS (R := .fr/-p-/) C.toDx rfl B.n_SIGNS) (tv_var (i := 0) C.toDx rfl rfl rfl) F.plainAttrs_str F.slot_str_find F.type_str_find)))

/-! ### card_of -/
abbrev N_card_of : List Str := ["text", "card"]
abbrev P_card_of : List Str := ["text"]
abbrev sc_card_of : Scope := defScope (top 12)
abbrev A_card_of : Type := (Str × Unit)
def t_card_of : A_card_of → List Dt := (tcons (α := Str) tnil)
def b_card_of (r : A_card_of) : Res (Fl Unit Str) := (((.ok r.1 : Res Str)).bind fun v_227 => ((.ok 40 : Res Int)).bind fun v_228 => padR Txt.ljust v_227 v_228).bind fun card_226 => (((((.ok card_226 : Res Str)).bind fun a_229 => ((.ok () : Res Unit)).bind fun r_230 => .ok (a_229, r_230)).bind m_is_card).bind fun v_231 => .ok (!v_231)).bind fun z_232 => if z_232 = true then (.err : Res (Fl Unit Str)).bind Fl.cut else ((.ok card_226 : Res Str)).bind fun r_233 => .ok (.rt r_233)
def m_card_of (r : A_card_of) : Res Str := (b_card_of r).bind (Fl.fin fun _ => .err)
theorem h_card_of {G : Gv} {X : Cx} {W : WX} (B : Bn G X.K X.mg) (C : Dd G X W N_card_of sc_card_of 1) (F_is_card : Fx G X false "is_card" (Rt t_is_card m_is_card) [] 1) (r : A_card_of) : HL G X W none false (entryΓ 2 (t_card_of r)) (defBody (top 12)) (fun _ : Unit => [.any, .any]) (b_card_of r) :=
  by
  have z : entryΓ 2 (t_card_of r) = [.val (enc (r.1 : Str)), .any] := rfl
  rw [z]
  unfold b_card_of
  exact (hl_set (i := 1) C trivial rfl rfl (tv_m1 (R := .av/-p-/) C.toDx m_ljust calm_okIf (tv_var (i := 0) C.toDx rfl rfl rfl) (tv_globI (R := .av/-p-/) C.toDx rfl B.n_WIDTH) F.plainAttrs_str F.slot_str_ljust F.type_str_ljust) (Γ' := fun (card_226 : Str) => [.val (enc (r.1 : Str)), .val (enc (card_226 : Str))]) (fun _ => rfl) fun card_226 => (hl_guardC trivial (tb_not (tb_val (tv_call C.toDx F_is_card (by decide) rfl (ea_cons (tv_any (tv_var (i := 1) C.toDx rfl rfl rfl)) (ea_nil (R := .top)))))) hl_err (hl_ret trivial (tv_flat (R := .fr) (tv_var (i := 1) C.toDx rfl rfl rfl)))))

/-! ### make_board -/
abbrev N_make_board : List Str := ["wires", "here", "there", "known", "wire"]
abbrev P_make_board : List Str := ["wires"]
abbrev sc_make_board : Scope := defScope (top 14)
abbrev A_make_board : Type := ((List (Int × Int)) × Unit)
def t_make_board : A_make_board → List Dt := (tcons (α := (List (Int × Int))) tnil)
def b_make_board (r : A_make_board) : Res (Fl Unit (List (Int × Int))) := (((.ok r.1 : Res (List (Int × Int)))).bind fun xs_249 => forR xs_249 (() : Unit) (fun (x_236 : (Int × Int)) (s_235 : Unit) => (orR (((.ok x_236.1 : Res Int)).bind fun v_240 => ((.ok 1 : Res Int)).bind fun v_241 => .ok (decide (v_240 < v_241))) (orR (((.ok x_236.1 : Res Int)).bind fun v_242 => ((.ok 40 : Res Int)).bind fun v_243 => .ok (decide (v_243 < v_242))) (orR (((.ok x_236.2 : Res Int)).bind fun v_244 => ((.ok 1 : Res Int)).bind fun v_245 => .ok (decide (v_244 < v_245))) (((.ok x_236.2 : Res Int)).bind fun v_246 => ((.ok 36 : Res Int)).bind fun v_247 => .ok (decide (v_247 < v_246)))))).bind fun z_248 => if z_248 = true then (.err : Res (Fl Unit (List (Int × Int)))).bind Fl.cut else .ok (.nx ())) : Res (Fl Unit (List (Int × Int)))).bind fun f => f.goL (fun s_250 => (((.ok r.1 : Res (List (Int × Int)))).bind fun xs_262 => forR xs_262 ((([] : List (Int × (Int × Int))), ()) : ((List (Int × (Int × Int))) × Unit)) (fun (x_253 : (Int × Int)) (s_252 : ((List (Int × (Int × Int))) × Unit)) => ((((.ok x_253 : Res (Int × Int))).bind fun v_254 => .ok v_254.2).bind fun v_255 => ((.ok (Dct.mk s_252.1) : Res (Dct Int (Int × Int)))).bind fun v_256 => .ok (dget v_256.kvs v_255).isSome).bind fun z_257 => if z_257 = true then (.err : Res (Fl ((List (Int × (Int × Int))) × Unit) (List (Int × Int)))).bind Fl.cut else ((.ok x_253 : Res (Int × Int))).bind fun a_260 => (((.ok x_253 : Res (Int × Int))).bind fun v_259 => .ok v_259.2).bind fun j_261 => chk (s_252.1.length < SZ) ((fun (known_258 : List (Int × (Int × Int))) => .ok (.nx (known_258, ()))) (dput s_252.1 j_261 a_260))) : Res (Fl ((List (Int × (Int × Int))) × Unit) (List (Int × Int)))).bind fun f => f.goL (fun s_263 => ((((.ok (Dct.mk s_263.1) : Res (Dct Int (Int × Int)))).bind fun v_264 => sortedDI v_264).bind fun v_268 => nox (lcR v_268 (fun (x_265 : Int) => .ok true) (fun (x_265 : Int) => ((.ok (Dct.mk s_263.1) : Res (Dct Int (Int × Int)))).bind fun v_266 => ((.ok x_265 : Res Int)).bind fun v_267 => dgetR v_266.kvs v_267))).bind fun r_269 => .ok (.rt r_269)))
def m_make_board (r : A_make_board) : Res (List (Int × Int)) := (b_make_board r).bind (Fl.fin fun _ => .err)
theorem h_make_board {G : Gv} {X : Cx} {W : WX} (B : Bn G X.K X.mg) (C : Dd G X W N_make_board sc_make_board 0) (r : A_make_board) : HL G X W none false (entryΓ 5 (t_make_board r)) (defBody (top 14)) (fun _ : Unit => [.any, .any, .any, .any, .any]) (b_make_board r) :=
  by
  have z : entryΓ 5 (t_make_board r) = [.val (enc (r.1 : (List (Int × Int)))), .any, .any, .any, .any] := rfl
  rw [z]
  unfold b_make_board
  exact (hl_consL (G1 := (fun (s_234 : Unit) => [.val (enc (r.1 : (List (Int × Int)))), .any, .any, .any, .any])) (hs_for (Gs := (fun (s_234 : Unit) => [.val (enc (r.1 : (List (Int × Int)))), .any, .any, .any, .any])) (Γ1 := fun (s_235 : Unit) (x_236 : (Int × Int)) => [.val (enc (r.1 : (List (Int × Int)))), .val (enc (x_236.1 : Int)), .val (enc (x_236.2 : Int)), .any, .any]) (s0 := ()) C trivial (es_list (tv_var (i := 0) C.toDx rfl rfl rfl)) (Sub.same (Sub.same (Sub.same (Sub.same (Sub.same Sub.nil))))) (fun s_235 => (tg_tup C.toDx (tgs_cons (Γ1 := fun (t_237 : Int) => [.val (enc (r.1 : (List (Int × Int)))), .val (enc (t_237 : Int)), .any, .any, .any]) (tg_name (i := 1) C.toDx rfl rfl (.inl C.fn) (fun _ => rfl)) fun t_237 => (tgs_cons (Γ1 := fun (t_238 : Int) => [.val (enc (r.1 : (List (Int × Int)))), .val (enc (t_237 : Int)), .val (enc (t_238 : Int)), .any, .any]) (tg_name (i := 2) C.toDx rfl rfl (.inl C.fn) (fun _ => rfl)) fun t_238 => tgs_nil)) (fun p_239 : (Int × Int) => (p_239.1, p_239.2, ())) (fun _ => rfl) (fun _ => rfl) (fun _ => rfl))) (fun x_236 s_235 => (hl_guardC trivial (tb_of (to_or (tb_cmp cmp_lt (fun _ _ _ h => nomatch h) (tv_var (i := 1) C.toDx rfl rfl rfl) (tv_int (R := .av/-p-/)) rfl) (to_or (tb_cmp cmp_gt (fun _ _ _ h => nomatch h) (tv_var (i := 1) C.toDx rfl rfl rfl) (tv_int (R := .av/-p-/)) rfl) (to_or (tb_cmp cmp_lt (fun _ _ _ h => nomatch h) (tv_var (i := 2) C.toDx rfl rfl rfl) (tv_int (R := .av/-p-/)) rfl) (to_or1 (tb_cmp cmp_gt (fun _ _ _ h => nomatch h) (tv_var (i := 2) C.toDx rfl rfl rfl) (tv_int (R := .av/-p-/)) rfl)))))) hl_err (hl_end (Sub.same (Sub.any (Sub.any (Sub.same (Sub.same Sub.nil))))))))) (fun s_250 => (hl_nilD (i := 3) C rfl rfl (by decide) (Nat.le_of_ble_eq_true rfl) (Γ' := [.val (enc (r.1 : (List (Int × Int)))), .any, .any, .own (.d (dk (([] : List (Int × (Int × Int))) : List (Int × (Int × Int))))), .any]) rfl (hl_consL (G1 := (fun (s_251 : ((List (Int × (Int × Int))) × Unit)) => [.val (enc (r.1 : (List (Int × Int)))), .any, .any, .own (.d (dk (s_251.1 : List (Int × (Int × Int))))), .any])) (hs_for (Gs := (fun (s_251 : ((List (Int × (Int × Int))) × Unit)) => [.val (enc (r.1 : (List (Int × Int)))), .any, .any, .own (.d (dk (s_251.1 : List (Int × (Int × Int))))), .any])) (Γ1 := fun (s_252 : ((List (Int × (Int × Int))) × Unit)) (x_253 : (Int × Int)) => [.val (enc (r.1 : (List (Int × Int)))), .any, .any, .own (.d (dk (s_252.1 : List (Int × (Int × Int))))), .val (enc (x_253 : (Int × Int)))]) (s0 := (([] : List (Int × (Int × Int))), ())) C trivial (es_list (tv_var (i := 0) C.toDx rfl rfl rfl)) (Sub.same (Sub.same (Sub.same (Sub.same (Sub.same Sub.nil))))) (fun s_252 => (tg_name (i := 4) C.toDx rfl rfl (.inl C.fn) (fun _ => rfl))) (fun x_253 s_252 => (hl_guardC trivial (tb_inD C.toDx (tv_ixT C.toDx (tv_var (i := 4) C.toDx rfl rfl rfl) (fun x : (Int × Int) => x.2) (fun _ => ⟨_, rfl, rfl⟩)) (tv_vD (i := 3) C.toDx rfl rfl rfl) rfl) hl_err (hl_dput (i := 3) (kvs := s_252.1) (M := fun (known_258 : List (Int × (Int × Int))) => .ok (.nx (known_258, ()))) C.toDx trivial rfl rfl rfl (tv_var (i := 4) C.toDx rfl rfl rfl) (tv_ixT C.toDx (tv_var (i := 4) C.toDx rfl rfl rfl) (fun x : (Int × Int) => x.2) (fun _ => ⟨_, rfl, rfl⟩)) (Γ' := fun (known_258 : List (Int × (Int × Int))) => [.val (enc (r.1 : (List (Int × Int)))), .any, .any, .own (.d (dk (known_258 : List (Int × (Int × Int))))), .val (enc (x_253 : (Int × Int)))]) (fun _ => rfl) fun known_258 => (hl_end (Sub.same (Sub.same (Sub.same (Sub.same (Sub.any Sub.nil)))))))))) (fun s_263 => (hl_ret trivial (tv_fr (tv_lc C.toDx (es_list (tv_b1 (R := .av/-p-/) C.toDx (b_sortedDI C.toDx) calm_okIf1 (tv_vD (i := 3) C.toDx rfl rfl rfl) rfl B.n_sorted (by decide +kernel))) (⟨⟨rfl, by decide +kernel, by decide +kernel, by decide +kernel, by decide +kernel⟩, by decide, fun s_b H_b D_b cl_b fp_b C_b => ⟨(tg_name (i := 2) C_b rfl rfl (.inr rfl) (fun _ => rfl)), fun x_265 => eif_nil, fun x_265 => (tv_flat (R := .av) (tv_dget C_b (tv_vD (i := 3) C_b rfl rfl rfl) (tv_var (i := 2) C_b rfl rfl rfl)))⟩⟩ : Blk G X N_make_board 0 sc_make_board _ _ _ _ _ _ [("there", 2)] _ (α := Int) (β := (Int × Int)) (fun (x_265 : Int) => [.val (enc (r.1 : (List (Int × Int)))), .any, .val (enc (x_265 : Int)), .own (.d (dk (s_263.1 : List (Int × (Int × Int))))), .any]) (fun (x_265 : Int) => .ok true) (fun (x_265 : Int) => ((.ok (Dct.mk s_263.1) : Res (Dct Int (Int × Int)))).bind fun v_266 => ((.ok x_265 : Res Int)).bind fun v_267 => dgetR v_266.kvs v_267)) nod_flat))))))))

/-! ### is_wide -/
abbrev N_is_wide : List Str := ["text", "field"]
abbrev P_is_wide : List Str := ["text", "field"]
abbrev sc_is_wide : Scope := defScope (top 35)
abbrev A_is_wide : Type := (Str × ((Int × Int) × Unit))
def t_is_wide : A_is_wide → List Dt := (tcons (α := Str) (tcons (α := (Int × Int)) tnil))
def b_is_wide (r : A_is_wide) : Res (Fl Unit Bool) := (nox (((((.ok r.1 : Res Str)).bind fun a_274 => ((.ok () : Res Unit)).bind fun r_275 => .ok (a_274, r_275)).bind m_card_of).bind fun u_276 => .ok (.nx ()) : Res (Fl Unit Bool))).bind fun f => f.goL (fun s_277 => ((((.ok r.1 : Res Str)).bind fun v_278 => lenS v_278).bind fun v_282 => (((((.ok r.2.1 : Res (Int × Int))).bind fun a_279 => ((.ok () : Res Unit)).bind fun r_280 => .ok (a_279, r_280)).bind m_columns_of).bind fun v_281 => .ok (v_281.length : Int)).bind fun v_283 => .ok (decide (v_282 = v_283))).bind fun r_284 => .ok (.rt r_284))
def m_is_wide (r : A_is_wide) : Res Bool := (b_is_wide r).bind (Fl.fin fun _ => .err)
theorem h_is_wide {G : Gv} {X : Cx} {W : WX} (B : Bn G X.K X.mg) (C : Dd G X W N_is_wide sc_is_wide 2) (F_card_of : Fx G X false "card_of" (Rt t_card_of m_card_of) [] 2) (F_columns_of : Fx G X false "columns_of" (Rt t_columns_of m_columns_of) [] 1) (r : A_is_wide) : HL G X W none false (entryΓ 2 (t_is_wide r)) (defBody (top 35)) (fun _ : Unit => [.any, .any]) (b_is_wide r) :=
  by
  have z : entryΓ 2 (t_is_wide r) = [.val (enc (r.1 : Str)), .val (enc (r.2.1 : (Int × Int)))] := rfl
  rw [z]
  unfold b_is_wide
  exact (hl_one (hs_tryL (G1 := (fun (s_273 : Unit) => [.val (enc (r.1 : Str)), .val (enc (r.2.1 : (Int × Int)))])) C (have C := dd_nox C; (hl_expr trivial (tv_call C.toDx F_card_of (by decide) rfl (ea_cons (tv_any (tv_var (i := 0) C.toDx rfl rfl rfl)) (ea_nil (R := .top)))) (hl_end (Sub.same (Sub.same Sub.nil))))) (fun s_277 => (hl_ret trivial (tv_cmp (R := .fr/-p-/) (cmp_eq C.toDx (by decide)) (fun _ _ _ h => nomatch h) (tv_b1 (R := .fr/-p-/) C.toDx b_lenS calm_okIf1 (tv_var (i := 0) C.toDx rfl rfl rfl) rfl B.n_len (by decide +kernel)) (tv_b1 (R := .fr/-p-/) C.toDx (b_lenL C.toDx) (fun _ _ h => nomatch h) (tv_call C.toDx F_columns_of (by decide) rfl (ea_cons (tv_any (tv_var (i := 1) C.toDx rfl rfl rfl)) (ea_nil (R := .top)))) rfl B.n_len (by decide +kernel)) rfl)))))

/-! ### is_board -/
abbrev N_is_board : List Str := ["board"]
abbrev P_is_board : List Str := ["board"]
abbrev sc_is_board : Scope := defScope (top 36)
abbrev A_is_board : Type := ((List (Int × Int)) × Unit)
def t_is_board : A_is_board → List Dt := (tcons (α := (List (Int × Int))) tnil)
def b_is_board (r : A_is_board) : Res (Fl Unit Bool) := nox ((((((.ok r.1 : Res (List (Int × Int)))).bind fun a_285 => ((.ok () : Res Unit)).bind fun r_286 => .ok (a_285, r_286)).bind m_make_board).bind fun v_287 => ((.ok r.1 : Res (List (Int × Int)))).bind fun v_288 => .ok (decide (v_287 = v_288))).bind fun r_289 => .ok (.rt r_289) : Res (Fl Unit Bool))
def m_is_board (r : A_is_board) : Res Bool := (b_is_board r).bind (Fl.fin fun _ => .err)
theorem h_is_board {G : Gv} {X : Cx} {W : WX} (B : Bn G X.K X.mg) (C : Dd G X W N_is_board sc_is_board 1) (F_make_board : Fx G X false "make_board" (Rt t_make_board m_make_board) [] 1) (r : A_is_board) : HL G X W none false (entryΓ 1 (t_is_board r)) (defBody (top 36)) (fun _ : Unit => [.any]) (b_is_board r) :=
  by
  have z : entryΓ 1 (t_is_board r) = [.val (enc (r.1 : (List (Int × Int))))] := rfl
  rw [z]
  unfold b_is_board
  exact (hl_one (hs_try0 C (have C := dd_nox C; (hl_ret trivial (tv_cmp (R := .fr/-p-/) (cmp_eq C.toDx (by decide)) (fun _ _ _ h => nomatch h) (tv_call C.toDx F_make_board (by decide) rfl (ea_cons (tv_any (tv_var (i := 0) C.toDx rfl rfl rfl)) (ea_nil (R := .top)))) (tv_var (i := 0) C.toDx rfl rfl rfl) rfl)))))

/-! ### are_picks -/
abbrev N_are_picks : List Str := ["picks", "known", "field", "text", "column", "sign"]
abbrev P_are_picks : List Str := ["picks"]
abbrev sc_are_picks : Scope := defScope (top 37)
abbrev A_are_picks : Type := ((List ((Int × Int) × Str)) × Unit)
def t_are_picks : A_are_picks → List Dt := (tcons (α := (List ((Int × Int) × Str))) tnil)
def b_are_picks (r : A_are_picks) : Res (Fl Unit Bool) := ((((.ok r.1 : Res (List ((Int × Int) × Str)))).bind fun v_290 => .ok (v_290.length : Int)).bind fun v_291 => ((.ok 8 : Res Int)).bind fun v_292 => .ok (decide (v_292 < v_291))).bind fun z_293 => if z_293 = true then (((.ok false : Res Bool)).bind fun r_294 => .ok (.rt r_294) : Res (Fl Unit Bool)).bind Fl.cut else (((.ok r.1 : Res (List ((Int × Int) × Str)))).bind fun xs_328 => forR xs_328 ((([] : List (Int × Str)), ()) : ((List (Int × Str)) × Unit)) (fun (x_297 : ((Int × Int) × Str)) (s_296 : ((List (Int × Str)) × Unit)) => (orR (((((.ok x_297.1 : Res (Int × Int))).bind fun a_301 => ((.ok () : Res Unit)).bind fun r_302 => .ok (a_301, r_302)).bind m_is_field).bind fun v_303 => .ok (!v_303)) (((((.ok x_297.2 : Res Str)).bind fun a_306 => (((.ok x_297.1 : Res (Int × Int))).bind fun a_304 => ((.ok () : Res Unit)).bind fun r_305 => .ok (a_304, r_305)).bind fun r_307 => .ok (a_306, r_307)).bind m_is_wide).bind fun v_308 => .ok (!v_308))).bind fun z_309 => if z_309 = true then (((.ok false : Res Bool)).bind fun r_310 => .ok (.rt r_310) : Res (Fl ((List (Int × Str)) × Unit) Bool)).bind Fl.cut else ((((((.ok x_297.1 : Res (Int × Int))).bind fun a_313 => ((.ok () : Res Unit)).bind fun r_314 => .ok (a_313, r_314)).bind m_columns_of).bind fun v_315 => ((.ok x_297.2 : Res Str)).bind fun v_316 => .ok (v_315.zip (sgn v_316))).bind fun xs_326 => forR xs_326 ((s_296.1, ()) : ((List (Int × Str)) × Unit)) (fun (x_317 : (Int × Str)) (s_312 : ((List (Int × Str)) × Unit)) => ((.ok x_317.1 : Res Int)).bind fun j_323 => ((.ok x_317.2 : Res Str)).bind fun y_324 => chk (s_312.1.length < SZ) (((fun (known_321 : List (Int × Str)) => ((.ok x_317.2 : Res Str) : Res Str)) (dset s_312.1 j_323 y_324)).bind fun z_325 => if (!decide ((dget s_312.1 j_323).getD y_324 = z_325)) = true then ((fun (known_321 : List (Int × Str)) => (((.ok false : Res Bool)).bind fun r_322 => .ok (.rt r_322) : Res (Fl ((List (Int × Str)) × Unit) Bool))) (dset s_312.1 j_323 y_324)).bind Fl.cut else (fun (known_321 : List (Int × Str)) => (.ok (.nx (known_321, ())) : Res (Fl ((List (Int × Str)) × Unit) Bool))) (dset s_312.1 j_323 y_324))) : Res (Fl ((List (Int × Str)) × Unit) Bool)).bind fun f => f.goL (fun s_327 => .ok (.nx (s_327.1, ())))) : Res (Fl ((List (Int × Str)) × Unit) Bool)).bind fun f => f.goL (fun s_329 => ((.ok true : Res Bool)).bind fun r_330 => .ok (.rt r_330))
def m_are_picks (r : A_are_picks) : Res Bool := (b_are_picks r).bind (Fl.fin fun _ => .err)
theorem h_are_picks {G : Gv} {X : Cx} {W : WX} (B : Bn G X.K X.mg) (C : Dd G X W N_are_picks sc_are_picks 3) (F_is_field : Fx G X false "is_field" (Rt t_is_field m_is_field) [] 1) (F_is_wide : Fx G X false "is_wide" (Rt t_is_wide m_is_wide) [] 3) (F_columns_of : Fx G X false "columns_of" (Rt t_columns_of m_columns_of) [] 1) (r : A_are_picks) : HL G X W none false (entryΓ 6 (t_are_picks r)) (defBody (top 37)) (fun _ : Unit => [.any, .any, .any, .any, .any, .any]) (b_are_picks r) :=
  by
  have z : entryΓ 6 (t_are_picks r) = [.val (enc (r.1 : (List ((Int × Int) × Str)))), .any, .any, .any, .any, .any] := rfl
  rw [z]
  unfold b_are_picks
  exact (hl_guardC trivial (tb_cmp cmp_gt (fun _ _ _ h => nomatch h) (tv_b1 (R := .av/-p-/) C.toDx (b_lenL C.toDx) (fun _ _ h => nomatch h) (tv_var (i := 0) C.toDx rfl rfl rfl) rfl B.n_len (by decide +kernel)) (tv_int (R := .av/-p-/)) rfl) (hl_ret trivial (tv_bl (R := .fr/-p-/))) (hl_nilD (i := 1) C rfl rfl (by decide) (Nat.le_of_ble_eq_true rfl) (Γ' := [.val (enc (r.1 : (List ((Int × Int) × Str)))), .own (.d (dk (([] : List (Int × Str)) : List (Int × Str)))), .any, .any, .any, .any]) rfl (hl_consL (G1 := (fun (s_295 : ((List (Int × Str)) × Unit)) => [.val (enc (r.1 : (List ((Int × Int) × Str)))), .own (.d (dk (s_295.1 : List (Int × Str)))), .any, .any, .any, .any])) (hs_for (Gs := (fun (s_295 : ((List (Int × Str)) × Unit)) => [.val (enc (r.1 : (List ((Int × Int) × Str)))), .own (.d (dk (s_295.1 : List (Int × Str)))), .any, .any, .any, .any])) (Γ1 := fun (s_296 : ((List (Int × Str)) × Unit)) (x_297 : ((Int × Int) × Str)) => [.val (enc (r.1 : (List ((Int × Int) × Str)))), .own (.d (dk (s_296.1 : List (Int × Str)))), .val (enc (x_297.1 : (Int × Int))), .val (enc (x_297.2 : Str)), .any, .any]) (s0 := (([] : List (Int × Str)), ())) C trivial (es_list (tv_var (i := 0) C.toDx rfl rfl rfl)) (Sub.same (Sub.same (Sub.same (Sub.same (Sub.same (Sub.same Sub.nil)))))) (fun s_296 => (tg_tup C.toDx (tgs_cons (Γ1 := fun (t_298 : (Int × Int)) => [.val (enc (r.1 : (List ((Int × Int) × Str)))), .own (.d (dk (s_296.1 : List (Int × Str)))), .val (enc (t_298 : (Int × Int))), .any, .any, .any]) (tg_name (i := 2) C.toDx rfl rfl (.inl C.fn) (fun _ => rfl)) fun t_298 => (tgs_cons (Γ1 := fun (t_299 : Str) => [.val (enc (r.1 : (List ((Int × Int) × Str)))), .own (.d (dk (s_296.1 : List (Int × Str)))), .val (enc (t_298 : (Int × Int))), .val (enc (t_299 : Str)), .any, .any]) (tg_name (i := 3) C.toDx rfl rfl (.inl C.fn) (fun _ => rfl)) fun t_299 => tgs_nil)) (fun p_300 : ((Int × Int) × Str) => (p_300.1, p_300.2, ())) (fun _ => rfl) (fun _ => rfl) (fun _ => rfl))) (fun x_297 s_296 => (hl_guardC trivial (tb_of (to_or (tb_not (tb_val (tv_call C.toDx F_is_field (by decide) rfl (ea_cons (tv_any (tv_var (i := 2) C.toDx rfl rfl rfl)) (ea_nil (R := .top)))))) (to_or1 (tb_not (tb_val (tv_call C.toDx F_is_wide (by decide) rfl (ea_cons (tv_any (tv_var (i := 3) C.toDx rfl rfl rfl)) (ea_cons (tv_any (tv_var (i := 2) C.toDx rfl rfl rfl)) (ea_nil (R := .top)))))))))) (hl_ret trivial (tv_bl (R := .fr/-p-/))) (hl_consL (G1 := (fun (s_311 : ((List (Int × Str)) × Unit)) => [.val (enc (r.1 : (List ((Int × Int) × Str)))), .own (.d (dk (s_311.1 : List (Int × Str)))), .val (enc (x_297.1 : (Int × Int))), .val (enc (x_297.2 : Str)), .any, .any])) (hs_for (Gs := (fun (s_311 : ((List (Int × Str)) × Unit)) => [.val (enc (r.1 : (List ((Int × Int) × Str)))), .own (.d (dk (s_311.1 : List (Int × Str)))), .val (enc (x_297.1 : (Int × Int))), .val (enc (x_297.2 : Str)), .any, .any])) (Γ1 := fun (s_312 : ((List (Int × Str)) × Unit)) (x_317 : (Int × Str)) => [.val (enc (r.1 : (List ((Int × Int) × Str)))), .own (.d (dk (s_312.1 : List (Int × Str)))), .val (enc (x_297.1 : (Int × Int))), .val (enc (x_297.2 : Str)), .val (enc (x_317.1 : Int)), .val (enc (x_317.2 : Str))]) (s0 := (s_296.1, ())) C trivial (es_zipS C.toDx (tv_av (tv_call C.toDx F_columns_of (by decide) rfl (ea_cons (tv_any (tv_var (i := 2) C.toDx rfl rfl rfl)) (ea_nil (R := .top))))) (tv_var (i := 3) C.toDx rfl rfl rfl) rfl B.n_zip) (Sub.same (Sub.same (Sub.same (Sub.same (Sub.same (Sub.same Sub.nil)))))) (fun s_312 => (tg_tup C.toDx (tgs_cons (Γ1 := fun (t_318 : Int) => [.val (enc (r.1 : (List ((Int × Int) × Str)))), .own (.d (dk (s_312.1 : List (Int × Str)))), .val (enc (x_297.1 : (Int × Int))), .val (enc (x_297.2 : Str)), .val (enc (t_318 : Int)), .any]) (tg_name (i := 4) C.toDx rfl rfl (.inl C.fn) (fun _ => rfl)) fun t_318 => (tgs_cons (Γ1 := fun (t_319 : Str) => [.val (enc (r.1 : (List ((Int × Int) × Str)))), .own (.d (dk (s_312.1 : List (Int × Str)))), .val (enc (x_297.1 : (Int × Int))), .val (enc (x_297.2 : Str)), .val (enc (t_318 : Int)), .val (enc (t_319 : Str))]) (tg_name (i := 5) C.toDx rfl rfl (.inl C.fn) (fun _ => rfl)) fun t_319 => tgs_nil)) (fun p_320 : (Int × Str) => (p_320.1, p_320.2, ())) (fun _ => rfl) (fun _ => rfl) (fun _ => rfl))) (fun x_317 s_312 => (hl_ifSetd (i := 1) (kvs := s_312.1) (l3 := (fun (known_321 : List (Int × Str)) => ((.ok x_317.2 : Res Str) : Res Str))) (A := (fun (known_321 : List (Int × Str)) => (((.ok false : Res Bool)).bind fun r_322 => .ok (.rt r_322) : Res (Fl ((List (Int × Str)) × Unit) Bool)))) (M := (fun (known_321 : List (Int × Str)) => (.ok (.nx (known_321, ())) : Res (Fl ((List (Int × Str)) × Unit) Bool)))) C.toDx trivial (fun _ => trivial) rfl rfl rfl (tv_var (i := 4) C.toDx rfl rfl rfl) (tv_var (i := 5) C.toDx rfl rfl rfl) (fun known_321 => (tv_var (i := 5) C.toDx rfl rfl rfl)) (Γ' := fun (known_321 : List (Int × Str)) => [.val (enc (r.1 : (List ((Int × Int) × Str)))), .own (.d (dk (known_321 : List (Int × Str)))), .val (enc (x_297.1 : (Int × Int))), .val (enc (x_297.2 : Str)), .val (enc (x_317.1 : Int)), .val (enc (x_317.2 : Str))]) (fun _ => rfl) rfl (by decide) (fun known_321 => (hl_ret trivial (tv_bl (R := .fr/-p-/)))) (fun known_321 => (hl_end (Sub.same (Sub.same (Sub.same (Sub.same (Sub.any (Sub.any Sub.nil)))))))) ⟨rfl, rfl, rfl, rfl⟩ rfl))) (fun s_327 => (hl_end (Sub.same (Sub.same (Sub.any (Sub.any (Sub.same (Sub.same Sub.nil)))))))))))) (fun s_329 => (hl_ret trivial (tv_bl (R := .fr/-p-/)))))))

/-! ### is_middle -/
abbrev N_is_middle : List Str := ["middle", "deck", "one", "other"]
abbrev P_is_middle : List Str := ["middle", "deck"]
abbrev sc_is_middle : Scope := defScope (top 38)
abbrev A_is_middle : Type := (Dt × (Str × Unit))
def t_is_middle : A_is_middle → List Dt := (tcons (α := Dt) (tcons (α := Str) tnil))
def b_is_middle (r : A_is_middle) : Res (Fl Unit Bool) := (((.ok r.1 : Res Dt)).bind fun v_331 => ((.ok () : Res Unit)).bind fun v_332 => .ok v_331.isN).bind fun z_333 => if z_333 = true then (((.ok true : Res Bool)).bind fun r_334 => .ok (.rt r_334) : Res (Fl Unit Bool)).bind Fl.cut else (((((.ok r.1 : Res Dt)).bind fun v_335 => dtAt v_335 0).bind (cast Str)).bind fun v_336 => ((.ok "first" : Res Str)).bind fun v_337 => .ok (decide (v_336 = v_337))).bind fun z_338 => if z_338 = true then (((((((.ok r.1 : Res Dt)).bind fun v_339 => dtAt v_339 1).bind (cast (Int × Int))).bind fun a_340 => ((.ok () : Res Unit)).bind fun r_341 => .ok (a_340, r_341)).bind m_is_field).bind fun r_342 => .ok (.rt r_342) : Res (Fl Unit Bool)).bind Fl.cut else (orR (andR (((((.ok r.1 : Res Dt)).bind fun v_343 => dtAt v_343 0).bind (cast Str)).bind fun v_344 => ((.ok "mates" : Res Str)).bind fun v_345 => .ok (!decide (v_344 = v_345))) (((((.ok r.1 : Res Dt)).bind fun v_346 => dtAt v_346 0).bind (cast Str)).bind fun v_347 => ((.ok "without" : Res Str)).bind fun v_348 => .ok (!decide (v_347 = v_348)))) (orR (((((((.ok r.1 : Res Dt)).bind fun v_349 => dtAt v_349 1).bind (cast Str)).bind fun a_350 => ((.ok () : Res Unit)).bind fun r_351 => .ok (a_350, r_351)).bind m_is_name).bind fun v_352 => .ok (!v_352)) (((((.ok r.1 : Res Dt)).bind fun v_353 => dtAt v_353 1).bind (cast Str)).bind fun v_354 => ((.ok r.2.1 : Res Str)).bind fun v_355 => .ok (decide (v_354 = v_355))))).bind fun z_356 => if z_356 = true then (((.ok false : Res Bool)).bind fun r_357 => .ok (.rt r_357) : Res (Fl Unit Bool)).bind Fl.cut else ((((.ok r.1 : Res Dt)).bind fun v_359 => dtAt v_359 2).bind (cast (Int × Int))).bind fun one_358 => ((((.ok r.1 : Res Dt)).bind fun v_361 => dtAt v_361 3).bind (cast (Int × Int))).bind fun other_360 => (andR ((((.ok one_358 : Res (Int × Int))).bind fun a_362 => ((.ok () : Res Unit)).bind fun r_363 => .ok (a_362, r_363)).bind m_is_field) (andR ((((.ok other_360 : Res (Int × Int))).bind fun a_364 => ((.ok () : Res Unit)).bind fun r_365 => .ok (a_364, r_365)).bind m_is_field) (((((.ok one_358 : Res (Int × Int))).bind fun v_366 => .ok v_366.2).bind fun v_368 => (((.ok one_358 : Res (Int × Int))).bind fun v_367 => .ok v_367.1).bind fun v_369 => .ok (v_368 - v_369)).bind fun v_374 => ((((.ok other_360 : Res (Int × Int))).bind fun v_370 => .ok v_370.2).bind fun v_372 => (((.ok other_360 : Res (Int × Int))).bind fun v_371 => .ok v_371.1).bind fun v_373 => .ok (v_372 - v_373)).bind fun v_375 => .ok (decide (v_374 = v_375))))).bind fun r_376 => .ok (.rt r_376)
def m_is_middle (r : A_is_middle) : Res Bool := (b_is_middle r).bind (Fl.fin fun _ => .err)
theorem h_is_middle {G : Gv} {X : Cx} {W : WX} (B : Bn G X.K X.mg) (C : Dd G X W N_is_middle sc_is_middle 1) (F_is_field : Fx G X false "is_field" (Rt t_is_field m_is_field) [] 1) (F_is_name : Fx G X false "is_name" (Rt t_is_name m_is_name) [] 1) (r : A_is_middle) : HL G X W none false (entryΓ 4 (t_is_middle r)) (defBody (top 38)) (fun _ : Unit => [.any, .any, .any, .any]) (b_is_middle r) :=
  by
  have z : entryΓ 4 (t_is_middle r) = [.val (enc (r.1 : Dt)), .val (enc (r.2.1 : Str)), .any, .any] := rfl
  rw [z]
  unfold b_is_middle
  exact (hl_guardC trivial (tb_cmp cmp_isN (fun _ _ _ h => nomatch h) (tv_var (i := 0) C.toDx rfl rfl rfl) (tv_non (R := .av)) rfl) (hl_ret trivial (tv_bl (R := .fr/-p-/))) (hl_guardC trivial (tb_cmp (cmp_eq C.toDx (by decide)) (fun _ _ _ h => nomatch h) (tv_cast (tv_ixD C.toDx (tv_var (i := 0) C.toDx rfl rfl rfl))) (tv_str (R := .av/-p-/)) rfl) (hl_ret trivial (tv_flat (R := .fr) (tv_call C.toDx F_is_field (by decide) rfl (ea_cons (tv_any (tv_cast (tv_ixD C.toDx (tv_var (i := 0) C.toDx rfl rfl rfl)))) (ea_nil (R := .top)))))) (hl_guardC trivial (tb_of (to_or (tb_of (to_and (tb_cmp (cmp_ne C.toDx (by decide)) (fun _ _ _ h => nomatch h) (tv_cast (tv_ixD C.toDx (tv_var (i := 0) C.toDx rfl rfl rfl))) (tv_str (R := .av/-p-/)) rfl) (to_and1 (tb_cmp (cmp_ne C.toDx (by decide)) (fun _ _ _ h => nomatch h) (tv_cast (tv_ixD C.toDx (tv_var (i := 0) C.toDx rfl rfl rfl))) (tv_str (R := .av/-p-/)) rfl)))) (to_or (tb_not (tb_val (tv_call C.toDx F_is_name (by decide) rfl (ea_cons (tv_any (tv_cast (tv_ixD C.toDx (tv_var (i := 0) C.toDx rfl rfl rfl)))) (ea_nil (R := .top)))))) (to_or1 (tb_cmp (cmp_eq C.toDx (by decide)) (fun _ _ _ h => nomatch h) (tv_cast (tv_ixD C.toDx (tv_var (i := 0) C.toDx rfl rfl rfl))) (tv_var (i := 1) C.toDx rfl rfl rfl) rfl))))) (hl_ret trivial (tv_bl (R := .fr/-p-/))) (hl_set (i := 2) C trivial rfl rfl (tv_cast (tv_ixD C.toDx (tv_var (i := 0) C.toDx rfl rfl rfl))) (Γ' := fun (one_358 : (Int × Int)) => [.val (enc (r.1 : Dt)), .val (enc (r.2.1 : Str)), .val (enc (one_358 : (Int × Int))), .any]) (fun _ => rfl) fun one_358 => (hl_set (i := 3) C trivial rfl rfl (tv_cast (tv_ixD C.toDx (tv_var (i := 0) C.toDx rfl rfl rfl))) (Γ' := fun (other_360 : (Int × Int)) => [.val (enc (r.1 : Dt)), .val (enc (r.2.1 : Str)), .val (enc (one_358 : (Int × Int))), .val (enc (other_360 : (Int × Int)))]) (fun _ => rfl) fun other_360 => (hl_ret trivial (tv_and (R := .fr/-p-/) (tv_call C.toDx F_is_field (by decide) rfl (ea_cons (tv_any (tv_var (i := 2) C.toDx rfl rfl rfl)) (ea_nil (R := .top)))) (tv_and (R := .fr/-p-/) (tv_call C.toDx F_is_field (by decide) rfl (ea_cons (tv_any (tv_var (i := 3) C.toDx rfl rfl rfl)) (ea_nil (R := .top)))) (tv_and1 (tv_cmp (R := .fr/-p-/) (cmp_eq C.toDx (by decide)) (fun _ _ _ h => nomatch h) (tv_sub (R := .fr/-p-/) (tv_ixT C.toDx (tv_var (i := 2) C.toDx rfl rfl rfl) (fun x : (Int × Int) => x.2) (fun _ => ⟨_, rfl, rfl⟩)) (tv_ixT C.toDx (tv_var (i := 2) C.toDx rfl rfl rfl) (fun x : (Int × Int) => x.1) (fun _ => ⟨_, rfl, rfl⟩))) (tv_sub (R := .fr/-p-/) (tv_ixT C.toDx (tv_var (i := 3) C.toDx rfl rfl rfl) (fun x : (Int × Int) => x.2) (fun _ => ⟨_, rfl, rfl⟩)) (tv_ixT C.toDx (tv_var (i := 3) C.toDx rfl rfl rfl) (fun x : (Int × Int) => x.1) (fun _ => ⟨_, rfl, rfl⟩))) rfl))))))))))

/-! ### main_field -/
abbrev N_main_field : List Str := ["middle"]
abbrev P_main_field : List Str := ["middle"]
abbrev sc_main_field : Scope := defScope (top 39)
abbrev A_main_field : Type := (Dt × Unit)
def t_main_field : A_main_field → List Dt := (tcons (α := Dt) tnil)
def b_main_field (r : A_main_field) : Res (Fl Unit (List (Int × Int))) := (((.ok r.1 : Res Dt)).bind fun v_377 => ((.ok () : Res Unit)).bind fun v_378 => .ok v_377.isN).bind fun z_379 => if z_379 = true then ((((.ok () : Res Unit).bind fun r => .ok ([] : (List (Int × Int))))).bind fun r_380 => .ok (.rt r_380) : Res (Fl Unit (List (Int × Int)))).bind Fl.cut else (((((.ok r.1 : Res Dt)).bind fun v_381 => dtAt v_381 0).bind (cast Str)).bind fun v_382 => ((.ok "first" : Res Str)).bind fun v_383 => .ok (decide (v_382 = v_383))).bind fun z_384 => if z_384 = true then (((((((.ok r.1 : Res Dt)).bind fun v_385 => dtAt v_385 1).bind (cast (Int × Int))).bind fun a_386 => ((.ok () : Res Unit)).bind fun r_387 => .ok (a_386, r_387)).bind fun r => .ok ([r.1] : (List (Int × Int)))).bind fun r_388 => .ok (.rt r_388) : Res (Fl Unit (List (Int × Int)))).bind Fl.cut else ((((((.ok r.1 : Res Dt)).bind fun v_389 => dtAt v_389 2).bind (cast (Int × Int))).bind fun a_390 => ((.ok () : Res Unit)).bind fun r_391 => .ok (a_390, r_391)).bind fun r => .ok ([r.1] : (List (Int × Int)))).bind fun r_392 => .ok (.rt r_392)
def m_main_field (r : A_main_field) : Res (List (Int × Int)) := (b_main_field r).bind (Fl.fin fun _ => .err)
theorem h_main_field {G : Gv} {X : Cx} {W : WX} (B : Bn G X.K X.mg) (C : Dd G X W N_main_field sc_main_field 0) (r : A_main_field) : HL G X W none false (entryΓ 1 (t_main_field r)) (defBody (top 39)) (fun _ : Unit => [.any]) (b_main_field r) :=
  by
  have z : entryΓ 1 (t_main_field r) = [.val (enc (r.1 : Dt))] := rfl
  rw [z]
  unfold b_main_field
  exact (hl_guardC trivial (tb_cmp cmp_isN (fun _ _ _ h => nomatch h) (tv_var (i := 0) C.toDx rfl rfl rfl) (tv_non (R := .av)) rfl) (hl_ret trivial (tv_list (ea_nil (R := .fr/-p-/)) (fun r => ([] : (List (Int × Int)))) (fun _ => rfl) (by decide) (fun _ => rfl))) (hl_guardC trivial (tb_cmp (cmp_eq C.toDx (by decide)) (fun _ _ _ h => nomatch h) (tv_cast (tv_ixD C.toDx (tv_var (i := 0) C.toDx rfl rfl rfl))) (tv_str (R := .av/-p-/)) rfl) (hl_ret trivial (tv_list (ea_cons (tv_flat (R := .fr/-p-/) (tv_cast (tv_ixD C.toDx (tv_var (i := 0) C.toDx rfl rfl rfl)))) (ea_nil (R := .fr/-p-/))) (fun r => ([r.1] : (List (Int × Int)))) (fun _ => rfl) (by decide) (fun _ => rfl))) (hl_ret trivial (tv_list (ea_cons (tv_flat (R := .fr/-p-/) (tv_cast (tv_ixD C.toDx (tv_var (i := 0) C.toDx rfl rfl rfl)))) (ea_nil (R := .fr/-p-/))) (fun r => ([r.1] : (List (Int × Int)))) (fun _ => rfl) (by decide) (fun _ => rfl)))))

/-! ### are_works -/
abbrev N_are_works : List Str := ["works", "guarded", "k", "work", "to", "one", "word", "other", "kept", "ahead", "field"]
abbrev P_are_works : List Str := ["works", "guarded"]
abbrev sc_are_works : Scope := defScope (top 40)
abbrev A_are_works : Type := ((List (T4 (Int × Int) (Int × Int) Str (Int × Int))) × ((List (Int × Int)) × Unit))
def t_are_works : A_are_works → List Dt := (tcons (α := (List (T4 (Int × Int) (Int × Int) Str (Int × Int)))) (tcons (α := (List (Int × Int))) tnil))
def b_are_works (r : A_are_works) : Res (Fl Unit Bool) := ((((.ok r.1 : Res (List (T4 (Int × Int) (Int × Int) Str (Int × Int))))).bind fun v_393 => .ok (v_393.length : Int)).bind fun v_394 => ((.ok 4 : Res Int)).bind fun v_395 => .ok (decide (v_395 < v_394))).bind fun z_396 => if z_396 = true then (((.ok false : Res Bool)).bind fun r_397 => .ok (.rt r_397) : Res (Fl Unit Bool)).bind Fl.cut else ((((.ok r.1 : Res (List (T4 (Int × Int) (Int × Int) Str (Int × Int))))).bind fun v_400 => .ok (enumL v_400)).bind fun xs_474 => forR xs_474 (() : Unit) (fun (x_401 : (Int × (T4 (Int × Int) (Int × Int) Str (Int × Int)))) (s_399 : Unit) => ((.ok x_401.2 : Res (T4 (Int × Int) (Int × Int) Str (Int × Int)))).bind fun tp_405 => (((.ok tp_405.c : Res Str)).bind fun v_417 => ((((.ok "plus" : Res Str)).bind fun a_415 => (((.ok "less" : Res Str)).bind fun a_413 => (((.ok "times" : Res Str)).bind fun a_411 => ((.ok () : Res Unit)).bind fun r_412 => .ok (a_411, r_412)).bind fun r_414 => .ok (a_413, r_414)).bind fun r_416 => .ok (a_415, r_416)).bind fun r => .ok (Tup.mk [r.1, r.2.1, r.2.2.1] : Tup Str)).bind fun v_418 => .ok (!decide (v_417 ∈ v_418.xs))).bind fun z_419 => if z_419 = true then (((.ok false : Res Bool)).bind fun r_420 => .ok (.rt r_420) : Res (Fl Unit Bool)).bind Fl.cut else (orR (((((.ok tp_405.a : Res (Int × Int))).bind fun a_421 => ((.ok () : Res Unit)).bind fun r_422 => .ok (a_421, r_422)).bind m_is_field).bind fun v_423 => .ok (!v_423)) (orR (((((.ok tp_405.b : Res (Int × Int))).bind fun a_424 => ((.ok () : Res Unit)).bind fun r_425 => .ok (a_424, r_425)).bind m_is_field).bind fun v_426 => .ok (!v_426)) (((((.ok tp_405.d : Res (Int × Int))).bind fun a_427 => ((.ok () : Res Unit)).bind fun r_428 => .ok (a_427, r_428)).bind m_is_field).bind fun v_429 => .ok (!v_429)))).bind fun z_430 => if z_430 = true then (((.ok false : Res Bool)).bind fun r_431 => .ok (.rt r_431) : Res (Fl Unit Bool)).bind Fl.cut else (((.ok r.2.1 : Res (List (Int × Int)))).bind fun v_440 => ((((.ok r.1 : Res (List (T4 (Int × Int) (Int × Int) Str (Int × Int))))).bind fun v_434 => ((.ok none : Res (Option Int))).bind fun v_435 => (((.ok x_401.1 : Res Int)).bind fun v_433 => .ok (some v_433)).bind fun v_436 => .ok (cutL v_434 v_435 v_436)).bind fun v_439 => nox (lcR v_439 (fun (x_437 : (T4 (Int × Int) (Int × Int) Str (Int × Int))) => .ok true) (fun (x_437 : (T4 (Int × Int) (Int × Int) Str (Int × Int))) => ((.ok x_437 : Res (T4 (Int × Int) (Int × Int) Str (Int × Int)))).bind fun v_438 => .ok v_438.a))).bind fun v_441 => catL v_440 v_441).bind fun kept_432 => ((((.ok r.1 : Res (List (T4 (Int × Int) (Int × Int) Str (Int × Int))))).bind fun v_447 => ((.ok none : Res (Option Int))).bind fun v_448 => ((((.ok x_401.1 : Res Int)).bind fun v_444 => ((.ok 1 : Res Int)).bind fun v_445 => .ok (v_444 + v_445)).bind fun v_446 => .ok (some v_446)).bind fun v_449 => .ok (cutL v_447 v_448 v_449)).bind fun xs_460 => forR xs_460 ((kept_432, ()) : ((List (Int × Int)) × Unit)) (fun (x_450 : (T4 (Int × Int) (Int × Int) Str (Int × Int))) (s_443 : ((List (Int × Int)) × Unit)) => (((.ok s_443.1 : Res (List (Int × Int)))).bind fun v_458 => (((((.ok x_450 : Res (T4 (Int × Int) (Int × Int) Str (Int × Int)))).bind fun v_452 => .ok v_452.b).bind fun a_456 => ((((.ok x_450 : Res (T4 (Int × Int) (Int × Int) Str (Int × Int)))).bind fun v_453 => .ok v_453.d).bind fun a_454 => ((.ok () : Res Unit)).bind fun r_455 => .ok (a_454, r_455)).bind fun r_457 => .ok (a_456, r_457)).bind fun r => .ok ([r.1, r.2.1] : (List (Int × Int)))).bind fun v_459 => catL v_458 v_459).bind fun kept_451 => .ok (.nx (kept_451, ()))) : Res (Fl ((List (Int × Int)) × Unit) Bool)).bind fun f => f.goL (fun s_461 => (((.ok s_461.1 : Res (List (Int × Int)))).bind fun xs_472 => forR xs_472 (() : Unit) (fun (x_464 : (Int × Int)) (s_463 : Unit) => (((((.ok tp_405.a : Res (Int × Int))).bind fun a_467 => (((.ok x_464 : Res (Int × Int))).bind fun a_465 => ((.ok () : Res Unit)).bind fun r_466 => .ok (a_465, r_466)).bind fun r_468 => .ok (a_467, r_468)).bind m_are_apart).bind fun v_469 => .ok (!v_469)).bind fun z_470 => if z_470 = true then (((.ok false : Res Bool)).bind fun r_471 => .ok (.rt r_471) : Res (Fl Unit Bool)).bind Fl.cut else .ok (.nx ())) : Res (Fl Unit Bool)).bind fun f => f.goL (fun s_473 => .ok (.nx ())))) : Res (Fl Unit Bool)).bind fun f => f.goL (fun s_475 => ((.ok true : Res Bool)).bind fun r_476 => .ok (.rt r_476))
def m_are_works (r : A_are_works) : Res Bool := (b_are_works r).bind (Fl.fin fun _ => .err)
theorem h_are_works {G : Gv} {X : Cx} {W : WX} (B : Bn G X.K X.mg) (C : Dd G X W N_are_works sc_are_works 1) (F_is_field : Fx G X false "is_field" (Rt t_is_field m_is_field) [] 1) (F_are_apart : Fx G X false "are_apart" (Rt t_are_apart m_are_apart) [] 1) (r : A_are_works) : HL G X W none false (entryΓ 11 (t_are_works r)) (defBody (top 40)) (fun _ : Unit => [.any, .any, .any, .any, .any, .any, .any, .any, .any, .any, .any]) (b_are_works r) :=
  by
  have z : entryΓ 11 (t_are_works r) = [.val (enc (r.1 : (List (T4 (Int × Int) (Int × Int) Str (Int × Int))))), .val (enc (r.2.1 : (List (Int × Int)))), .any, .any, .any, .any, .any, .any, .any, .any, .any] := rfl
  rw [z]
  unfold b_are_works
  exact (hl_guardC trivial (tb_cmp cmp_gt (fun _ _ _ h => nomatch h) (tv_b1 (R := .av/-p-/) C.toDx (b_lenL C.toDx) (fun _ _ h => nomatch h) (tv_var (i := 0) C.toDx rfl rfl rfl) rfl B.n_len (by decide +kernel)) (tv_int (R := .av/-p-/)) rfl) (hl_ret trivial (tv_bl (R := .fr/-p-/))) (hl_consL (G1 := (fun (s_398 : Unit) => [.val (enc (r.1 : (List (T4 (Int × Int) (Int × Int) Str (Int × Int))))), .val (enc (r.2.1 : (List (Int × Int)))), .any, .any, .any, .any, .any, .any, .any, .any, .any])) (hs_for (Gs := (fun (s_398 : Unit) => [.val (enc (r.1 : (List (T4 (Int × Int) (Int × Int) Str (Int × Int))))), .val (enc (r.2.1 : (List (Int × Int)))), .any, .any, .any, .any, .any, .any, .any, .any, .any])) (Γ1 := fun (s_399 : Unit) (x_401 : (Int × (T4 (Int × Int) (Int × Int) Str (Int × Int)))) => [.val (enc (r.1 : (List (T4 (Int × Int) (Int × Int) Str (Int × Int))))), .val (enc (r.2.1 : (List (Int × Int)))), .val (enc (x_401.1 : Int)), .val (enc (x_401.2 : (T4 (Int × Int) (Int × Int) Str (Int × Int)))), .any, .any, .any, .any, .any, .any, .any]) (s0 := ()) C trivial (es_enum C.toDx (tv_var (i := 0) C.toDx rfl rfl rfl) rfl B.n_enumerate) (Sub.same (Sub.same (Sub.same (Sub.same (Sub.same (Sub.same (Sub.same (Sub.same (Sub.same (Sub.same (Sub.same Sub.nil))))))))))) (fun s_399 => (tg_tup C.toDx (tgs_cons (Γ1 := fun (t_402 : Int) => [.val (enc (r.1 : (List (T4 (Int × Int) (Int × Int) Str (Int × Int))))), .val (enc (r.2.1 : (List (Int × Int)))), .val (enc (t_402 : Int)), .any, .any, .any, .any, .any, .any, .any, .any]) (tg_name (i := 2) C.toDx rfl rfl (.inl C.fn) (fun _ => rfl)) fun t_402 => (tgs_cons (Γ1 := fun (t_403 : (T4 (Int × Int) (Int × Int) Str (Int × Int))) => [.val (enc (r.1 : (List (T4 (Int × Int) (Int × Int) Str (Int × Int))))), .val (enc (r.2.1 : (List (Int × Int)))), .val (enc (t_402 : Int)), .val (enc (t_403 : (T4 (Int × Int) (Int × Int) Str (Int × Int)))), .any, .any, .any, .any, .any, .any, .any]) (tg_name (i := 3) C.toDx rfl rfl (.inl C.fn) (fun _ => rfl)) fun t_403 => tgs_nil)) (fun p_404 : (Int × (T4 (Int × Int) (Int × Int) Str (Int × Int))) => (p_404.1, p_404.2, ())) (fun _ => rfl) (fun _ => rfl) (fun _ => rfl))) (fun x_401 s_399 => (hl_tgt C trivial (tv_var (i := 3) C.toDx rfl rfl rfl) (tg_tup C.toDx (tgs_cons (Γ1 := fun (t_406 : (Int × Int)) => [.val (enc (r.1 : (List (T4 (Int × Int) (Int × Int) Str (Int × Int))))), .val (enc (r.2.1 : (List (Int × Int)))), .val (enc (x_401.1 : Int)), .val (enc (x_401.2 : (T4 (Int × Int) (Int × Int) Str (Int × Int)))), .val (enc (t_406 : (Int × Int))), .any, .any, .any, .any, .any, .any]) (tg_name (i := 4) C.toDx rfl rfl (.inl C.fn) (fun _ => rfl)) fun t_406 => (tgs_cons (Γ1 := fun (t_407 : (Int × Int)) => [.val (enc (r.1 : (List (T4 (Int × Int) (Int × Int) Str (Int × Int))))), .val (enc (r.2.1 : (List (Int × Int)))), .val (enc (x_401.1 : Int)), .val (enc (x_401.2 : (T4 (Int × Int) (Int × Int) Str (Int × Int)))), .val (enc (t_406 : (Int × Int))), .val (enc (t_407 : (Int × Int))), .any, .any, .any, .any, .any]) (tg_name (i := 5) C.toDx rfl rfl (.inl C.fn) (fun _ => rfl)) fun t_407 => (tgs_cons (Γ1 := fun (t_408 : Str) => [.val (enc (r.1 : (List (T4 (Int × Int) (Int × Int) Str (Int × Int))))), .val (enc (r.2.1 : (List (Int × Int)))), .val (enc (x_401.1 : Int)), .val (enc (x_401.2 : (T4 (Int × Int) (Int × Int) Str (Int × Int)))), .val (enc (t_406 : (Int × Int))), .val (enc (t_407 : (Int × Int))), .val (enc (t_408 : Str)), .any, .any, .any, .any]) (tg_name (i := 6) C.toDx rfl rfl (.inl C.fn) (fun _ => rfl)) fun t_408 => (tgs_cons (Γ1 := fun (t_409 : (Int × Int)) => [.val (enc (r.1 : (List (T4 (Int × Int) (Int × Int) Str (Int × Int))))), .val (enc (r.2.1 : (List (Int × Int)))), .val (enc (x_401.1 : Int)), .val (enc (x_401.2 : (T4 (Int × Int) (Int × Int) Str (Int × Int)))), .val (enc (t_406 : (Int × Int))), .val (enc (t_407 : (Int × Int))), .val (enc (t_408 : Str)), .val (enc (t_409 : (Int × Int))), .any, .any, .any]) (tg_name (i := 7) C.toDx rfl rfl (.inl C.fn) (fun _ => rfl)) fun t_409 => tgs_nil)))) (fun p_410 : (T4 (Int × Int) (Int × Int) Str (Int × Int)) => (p_410.a, p_410.b, p_410.c, p_410.d, ())) (fun _ => rfl) (fun _ => rfl) (fun _ => rfl)) (Γ' := fun (tp_405 : (T4 (Int × Int) (Int × Int) Str (Int × Int))) => [.val (enc (r.1 : (List (T4 (Int × Int) (Int × Int) Str (Int × Int))))), .val (enc (r.2.1 : (List (Int × Int)))), .val (enc (x_401.1 : Int)), .val (enc (x_401.2 : (T4 (Int × Int) (Int × Int) Str (Int × Int)))), .val (enc (tp_405.a : (Int × Int))), .val (enc (tp_405.b : (Int × Int))), .val (enc (tp_405.c : Str)), .val (enc (tp_405.d : (Int × Int))), .any, .any, .any]) fun tp_405 => (hl_guardC trivial (tb_cmp (cmp_ninU C.toDx) (fun _ _ _ h => nomatch h) (tv_var (i := 6) C.toDx rfl rfl rfl) (tv_tup (ea_cons (tv_str (R := .av/-p-/)) (ea_cons (tv_str (R := .av/-p-/)) (ea_cons (tv_str (R := .av/-p-/)) (ea_nil (R := .av/-p-/))))) (fun r => (Tup.mk [r.1, r.2.1, r.2.2.1] : Tup Str)) (fun _ => rfl) (by decide) (fun _ => rfl)) rfl) (hl_ret trivial (tv_bl (R := .fr/-p-/))) (hl_guardC trivial (tb_of (to_or (tb_not (tb_val (tv_call C.toDx F_is_field (by decide) rfl (ea_cons (tv_any (tv_var (i := 4) C.toDx rfl rfl rfl)) (ea_nil (R := .top)))))) (to_or (tb_not (tb_val (tv_call C.toDx F_is_field (by decide) rfl (ea_cons (tv_any (tv_var (i := 5) C.toDx rfl rfl rfl)) (ea_nil (R := .top)))))) (to_or1 (tb_not (tb_val (tv_call C.toDx F_is_field (by decide) rfl (ea_cons (tv_any (tv_var (i := 7) C.toDx rfl rfl rfl)) (ea_nil (R := .top)))))))))) (hl_ret trivial (tv_bl (R := .fr/-p-/))) (hl_set (i := 8) C trivial rfl rfl (tv_catF (R := .av/-p-/) (tv_var (i := 1) C.toDx rfl rfl rfl) (tv_lc C.toDx (es_list (tv_slF (R := .av/-p-/) (tv_var (i := 0) C.toDx rfl rfl rfl) eo_none (eo_some (tv_var (i := 2) C.toDx rfl rfl rfl)))) (⟨⟨rfl, by decide +kernel, by decide +kernel, by decide +kernel, by decide +kernel⟩, by decide, fun s_b H_b D_b cl_b fp_b C_b => ⟨(tg_name (i := 9) C_b rfl rfl (.inr rfl) (fun _ => rfl)), fun x_437 => eif_nil, fun x_437 => (tv_ixT C_b (tv_var (i := 9) C_b rfl rfl rfl) (fun x : (T4 (Int × Int) (Int × Int) Str (Int × Int)) => x.a) (fun _ => ⟨_, rfl, rfl⟩))⟩⟩ : Blk G X N_are_works 1 sc_are_works _ _ _ _ _ _ [("ahead", 9)] _ (α := (T4 (Int × Int) (Int × Int) Str (Int × Int))) (β := (Int × Int)) (fun (x_437 : (T4 (Int × Int) (Int × Int) Str (Int × Int))) => [.val (enc (r.1 : (List (T4 (Int × Int) (Int × Int) Str (Int × Int))))), .val (enc (r.2.1 : (List (Int × Int)))), .val (enc (x_401.1 : Int)), .val (enc (x_401.2 : (T4 (Int × Int) (Int × Int) Str (Int × Int)))), .val (enc (tp_405.a : (Int × Int))), .val (enc (tp_405.b : (Int × Int))), .val (enc (tp_405.c : Str)), .val (enc (tp_405.d : (Int × Int))), .any, .val (enc (x_437 : (T4 (Int × Int) (Int × Int) Str (Int × Int)))), .any]) (fun (x_437 : (T4 (Int × Int) (Int × Int) Str (Int × Int))) => .ok true) (fun (x_437 : (T4 (Int × Int) (Int × Int) Str (Int × Int))) => ((.ok x_437 : Res (T4 (Int × Int) (Int × Int) Str (Int × Int)))).bind fun v_438 => .ok v_438.a)) nod_flat)) (Γ' := fun (kept_432 : (List (Int × Int))) => [.val (enc (r.1 : (List (T4 (Int × Int) (Int × Int) Str (Int × Int))))), .val (enc (r.2.1 : (List (Int × Int)))), .val (enc (x_401.1 : Int)), .val (enc (x_401.2 : (T4 (Int × Int) (Int × Int) Str (Int × Int)))), .val (enc (tp_405.a : (Int × Int))), .val (enc (tp_405.b : (Int × Int))), .val (enc (tp_405.c : Str)), .val (enc (tp_405.d : (Int × Int))), .val (enc (kept_432 : (List (Int × Int)))), .any, .any]) (fun _ => rfl) fun kept_432 => (hl_consL (G1 := (fun (s_442 : ((List (Int × Int)) × Unit)) => [.val (enc (r.1 : (List (T4 (Int × Int) (Int × Int) Str (Int × Int))))), .val (enc (r.2.1 : (List (Int × Int)))), .val (enc (x_401.1 : Int)), .val (enc (x_401.2 : (T4 (Int × Int) (Int × Int) Str (Int × Int)))), .val (enc (tp_405.a : (Int × Int))), .val (enc (tp_405.b : (Int × Int))), .val (enc (tp_405.c : Str)), .val (enc (tp_405.d : (Int × Int))), .val (enc (s_442.1 : (List (Int × Int)))), .any, .any])) (hs_for (Gs := (fun (s_442 : ((List (Int × Int)) × Unit)) => [.val (enc (r.1 : (List (T4 (Int × Int) (Int × Int) Str (Int × Int))))), .val (enc (r.2.1 : (List (Int × Int)))), .val (enc (x_401.1 : Int)), .val (enc (x_401.2 : (T4 (Int × Int) (Int × Int) Str (Int × Int)))), .val (enc (tp_405.a : (Int × Int))), .val (enc (tp_405.b : (Int × Int))), .val (enc (tp_405.c : Str)), .val (enc (tp_405.d : (Int × Int))), .val (enc (s_442.1 : (List (Int × Int)))), .any, .any])) (Γ1 := fun (s_443 : ((List (Int × Int)) × Unit)) (x_450 : (T4 (Int × Int) (Int × Int) Str (Int × Int))) => [.val (enc (r.1 : (List (T4 (Int × Int) (Int × Int) Str (Int × Int))))), .val (enc (r.2.1 : (List (Int × Int)))), .val (enc (x_401.1 : Int)), .val (enc (x_401.2 : (T4 (Int × Int) (Int × Int) Str (Int × Int)))), .val (enc (tp_405.a : (Int × Int))), .val (enc (tp_405.b : (Int × Int))), .val (enc (tp_405.c : Str)), .val (enc (tp_405.d : (Int × Int))), .val (enc (s_443.1 : (List (Int × Int)))), .val (enc (x_450 : (T4 (Int × Int) (Int × Int) Str (Int × Int)))), .any]) (s0 := (kept_432, ())) C trivial (es_list (tv_slF (R := .av/-p-/) (tv_var (i := 0) C.toDx rfl rfl rfl) eo_none (eo_some (tv_add (R := .av/-p-/) (tv_var (i := 2) C.toDx rfl rfl rfl) (tv_int (R := .av/-p-/)))))) (Sub.same (Sub.same (Sub.same (Sub.same (Sub.same (Sub.same (Sub.same (Sub.same (Sub.same (Sub.same (Sub.same Sub.nil))))))))))) (fun s_443 => (tg_name (i := 9) C.toDx rfl rfl (.inl C.fn) (fun _ => rfl))) (fun x_450 s_443 => (hl_set (i := 8) C trivial rfl rfl (tv_catF (R := .av/-p-/) (tv_var (i := 8) C.toDx rfl rfl rfl) (tv_list (ea_cons (tv_flat (R := .av/-p-/) (tv_ixT C.toDx (tv_var (i := 9) C.toDx rfl rfl rfl) (fun x : (T4 (Int × Int) (Int × Int) Str (Int × Int)) => x.b) (fun _ => ⟨_, rfl, rfl⟩))) (ea_cons (tv_flat (R := .av/-p-/) (tv_ixT C.toDx (tv_var (i := 9) C.toDx rfl rfl rfl) (fun x : (T4 (Int × Int) (Int × Int) Str (Int × Int)) => x.d) (fun _ => ⟨_, rfl, rfl⟩))) (ea_nil (R := .av/-p-/)))) (fun r => ([r.1, r.2.1] : (List (Int × Int)))) (fun _ => rfl) (by decide) (fun _ => rfl))) (Γ' := fun (kept_451 : (List (Int × Int))) => [.val (enc (r.1 : (List (T4 (Int × Int) (Int × Int) Str (Int × Int))))), .val (enc (r.2.1 : (List (Int × Int)))), .val (enc (x_401.1 : Int)), .val (enc (x_401.2 : (T4 (Int × Int) (Int × Int) Str (Int × Int)))), .val (enc (tp_405.a : (Int × Int))), .val (enc (tp_405.b : (Int × Int))), .val (enc (tp_405.c : Str)), .val (enc (tp_405.d : (Int × Int))), .val (enc (kept_451 : (List (Int × Int)))), .val (enc (x_450 : (T4 (Int × Int) (Int × Int) Str (Int × Int)))), .any]) (fun _ => rfl) fun kept_451 => (hl_end (Sub.same (Sub.same (Sub.same (Sub.same (Sub.same (Sub.same (Sub.same (Sub.same (Sub.same (Sub.any (Sub.same Sub.nil))))))))))))))) (fun s_461 => (hl_consL (G1 := (fun (s_462 : Unit) => [.val (enc (r.1 : (List (T4 (Int × Int) (Int × Int) Str (Int × Int))))), .val (enc (r.2.1 : (List (Int × Int)))), .val (enc (x_401.1 : Int)), .val (enc (x_401.2 : (T4 (Int × Int) (Int × Int) Str (Int × Int)))), .val (enc (tp_405.a : (Int × Int))), .val (enc (tp_405.b : (Int × Int))), .val (enc (tp_405.c : Str)), .val (enc (tp_405.d : (Int × Int))), .val (enc (s_461.1 : (List (Int × Int)))), .any, .any])) (hs_for (Gs := (fun (s_462 : Unit) => [.val (enc (r.1 : (List (T4 (Int × Int) (Int × Int) Str (Int × Int))))), .val (enc (r.2.1 : (List (Int × Int)))), .val (enc (x_401.1 : Int)), .val (enc (x_401.2 : (T4 (Int × Int) (Int × Int) Str (Int × Int)))), .val (enc (tp_405.a : (Int × Int))), .val (enc (tp_405.b : (Int × Int))), .val (enc (tp_405.c : Str)), .val (enc (tp_405.d : (Int × Int))), .val (enc (s_461.1 : (List (Int × Int)))), .any, .any])) (Γ1 := fun (s_463 : Unit) (x_464 : (Int × Int)) => [.val (enc (r.1 : (List (T4 (Int × Int) (Int × Int) Str (Int × Int))))), .val (enc (r.2.1 : (List (Int × Int)))), .val (enc (x_401.1 : Int)), .val (enc (x_401.2 : (T4 (Int × Int) (Int × Int) Str (Int × Int)))), .val (enc (tp_405.a : (Int × Int))), .val (enc (tp_405.b : (Int × Int))), .val (enc (tp_405.c : Str)), .val (enc (tp_405.d : (Int × Int))), .val (enc (s_461.1 : (List (Int × Int)))), .any, .val (enc (x_464 : (Int × Int)))]) (s0 := ()) C trivial (es_list (tv_var (i := 8) C.toDx rfl rfl rfl)) (Sub.same (Sub.same (Sub.same (Sub.same (Sub.same (Sub.same (Sub.same (Sub.same (Sub.same (Sub.same (Sub.same Sub.nil))))))))))) (fun s_463 => (tg_name (i := 10) C.toDx rfl rfl (.inl C.fn) (fun _ => rfl))) (fun x_464 s_463 => (hl_guardC trivial (tb_not (tb_val (tv_call C.toDx F_are_apart (by decide) rfl (ea_cons (tv_any (tv_var (i := 4) C.toDx rfl rfl rfl)) (ea_cons (tv_any (tv_var (i := 10) C.toDx rfl rfl rfl)) (ea_nil (R := .top))))))) (hl_ret trivial (tv_bl (R := .fr/-p-/))) (hl_end (Sub.same (Sub.same (Sub.same (Sub.same (Sub.same (Sub.same (Sub.same (Sub.same (Sub.same (Sub.same (Sub.any Sub.nil))))))))))))))) (fun s_473 => (hl_end (Sub.same (Sub.same (Sub.any (Sub.any (Sub.any (Sub.any (Sub.any (Sub.any (Sub.any (Sub.same (Sub.same Sub.nil)))))))))))))))))))))) (fun s_475 => (hl_ret trivial (tv_bl (R := .fr/-p-/))))))

/-! ### Asking.is_fit -/
abbrev N_Asking_is_fit : List Str := ["self", "field", "guarded", "text"]
abbrev P_Asking_is_fit : List Str := ["self"]
abbrev sc_Asking_is_fit : Scope := defScope (inClass (top 41) 1)
abbrev A_Asking_is_fit : Type := (Asking × Unit)
def t_Asking_is_fit : A_Asking_is_fit → List Dt := (tcons (α := Asking) tnil)
def b_Asking_is_fit (r : A_Asking_is_fit) : Res (Fl Unit Bool) := (orR ((((((.ok r.1 : Res Asking)).bind fun v_477 => .ok v_477.f_deck).bind fun a_478 => ((.ok () : Res Unit)).bind fun r_479 => .ok (a_478, r_479)).bind m_is_name).bind fun v_480 => .ok (!v_480)) (orR ((((((.ok r.1 : Res Asking)).bind fun v_481 => .ok v_481.f_picks).bind fun a_482 => ((.ok () : Res Unit)).bind fun r_483 => .ok (a_482, r_483)).bind m_are_picks).bind fun v_484 => .ok (!v_484)) ((((((.ok r.1 : Res Asking)).bind fun v_485 => .ok v_485.f_middle).bind fun a_489 => ((((.ok r.1 : Res Asking)).bind fun v_486 => .ok v_486.f_deck).bind fun a_487 => ((.ok () : Res Unit)).bind fun r_488 => .ok (a_487, r_488)).bind fun r_490 => .ok (a_489, r_490)).bind m_is_middle).bind fun v_491 => .ok (!v_491)))).bind fun z_492 => if z_492 = true then (((.ok false : Res Bool)).bind fun r_493 => .ok (.rt r_493) : Res (Fl Unit Bool)).bind Fl.cut else (orR (((((.ok r.1 : Res Asking)).bind fun v_494 => .ok v_494.f_order).bind fun v_495 => .ok (v_495.length : Int)).bind fun v_496 => ((.ok 6 : Res Int)).bind fun v_497 => .ok (decide (v_497 < v_496))) (orR (((((.ok r.1 : Res Asking)).bind fun v_498 => .ok v_498.f_sums).bind fun v_499 => .ok (v_499.length : Int)).bind fun v_500 => ((.ok 4 : Res Int)).bind fun v_501 => .ok (decide (v_501 < v_500))) ((((.ok 1 : Res Int)).bind fun c_503 => chT c_503 [(fun x y => decide (x ≤ y), ((.ok r.1 : Res Asking)).bind fun v_502 => .ok v_502.f_figures), (fun x y => decide (x ≤ y), (.ok 12 : Res Int))]).bind fun v_504 => .ok (!v_504)))).bind fun z_505 => if z_505 = true then (((.ok false : Res Bool)).bind fun r_506 => .ok (.rt r_506) : Res (Fl Unit Bool)).bind Fl.cut else (((((.ok r.1 : Res Asking)).bind fun v_509 => .ok v_509.f_order).bind fun v_511 => (((.ok r.1 : Res Asking)).bind fun v_510 => .ok v_510.f_sums).bind fun v_512 => catL v_511 v_512).bind fun xs_519 => forR xs_519 (() : Unit) (fun (x_513 : (Int × Int)) (s_508 : Unit) => (((((.ok x_513 : Res (Int × Int))).bind fun a_514 => ((.ok () : Res Unit)).bind fun r_515 => .ok (a_514, r_515)).bind m_is_field).bind fun v_516 => .ok (!v_516)).bind fun z_517 => if z_517 = true then (((.ok false : Res Bool)).bind fun r_518 => .ok (.rt r_518) : Res (Fl Unit Bool)).bind Fl.cut else .ok (.nx ())) : Res (Fl Unit Bool)).bind fun f => f.goL (fun s_520 => (orR ((((.ok 0 : Res Int)).bind fun c_526 => chT c_526 [(fun x y => decide (x ≤ y), ((.ok r.1 : Res Asking)).bind fun v_521 => .ok v_521.f_breaks), (fun x y => decide (x ≤ y), ((.ok 3 : Res Int)).bind fun v_524 => ((((.ok r.1 : Res Asking)).bind fun v_522 => .ok v_522.f_order).bind fun v_523 => .ok (v_523.length : Int)).bind fun v_525 => .ok (if v_525 < v_524 then v_525 else v_524))]).bind fun v_527 => .ok (!v_527)) ((((((.ok r.1 : Res Asking)).bind fun v_528 => .ok v_528.f_board).bind fun a_529 => ((.ok () : Res Unit)).bind fun r_530 => .ok (a_529, r_530)).bind m_is_board).bind fun v_531 => .ok (!v_531))).bind fun z_532 => if z_532 = true then (((.ok false : Res Bool)).bind fun r_533 => .ok (.rt r_533) : Res (Fl Unit Bool)).bind Fl.cut else ((((((.ok r.1 : Res Asking)).bind fun v_535 => .ok v_535.f_picks).bind fun v_540 => nox (lcR v_540 (fun (x_536 : ((Int × Int) × Str)) => .ok true) (fun (x_536 : ((Int × Int) × Str)) => (.ok x_536.1 : Res (Int × Int))))).bind fun v_544 => (((((.ok r.1 : Res Asking)).bind fun v_541 => .ok v_541.f_middle).bind fun a_542 => ((.ok () : Res Unit)).bind fun r_543 => .ok (a_542, r_543)).bind m_main_field).bind fun v_545 => catL v_544 v_545).bind fun v_547 => (((.ok r.1 : Res Asking)).bind fun v_546 => .ok v_546.f_order).bind fun v_548 => catL v_547 v_548).bind fun guarded_534 => (((((.ok r.1 : Res Asking)).bind fun v_549 => .ok v_549.f_works).bind fun a_552 => (((.ok guarded_534 : Res (List (Int × Int)))).bind fun a_550 => ((.ok () : Res Unit)).bind fun r_551 => .ok (a_550, r_551)).bind fun r_553 => .ok (a_552, r_553)).bind m_are_works).bind fun r_554 => .ok (.rt r_554))
def m_Asking_is_fit (r : A_Asking_is_fit) : Res Bool := (b_Asking_is_fit r).bind (Fl.fin fun _ => .err)
theorem h_Asking_is_fit {G : Gv} {X : Cx} {W : WX} (B : Bn G X.K X.mg) (C : Dd G X W N_Asking_is_fit sc_Asking_is_fit 4) (F_is_name : Fx G X false "is_name" (Rt t_is_name m_is_name) [] 1) (F_are_picks : Fx G X false "are_picks" (Rt t_are_picks m_are_picks) [] 4) (F_is_middle : Fx G X false "is_middle" (Rt t_is_middle m_is_middle) [] 2) (F_is_field : Fx G X false "is_field" (Rt t_is_field m_is_field) [] 1) (F_is_board : Fx G X false "is_board" (Rt t_is_board m_is_board) [] 2) (F_main_field : Fx G X false "main_field" (Rt t_main_field m_main_field) [] 1) (F_are_works : Fx G X false "are_works" (Rt t_are_works m_are_works) [] 2) (r : A_Asking_is_fit) : HL G X W none false (entryΓ 4 (t_Asking_is_fit r)) (defBody (inClass (top 41) 1)) (fun _ : Unit => [.any, .any, .any, .any]) (b_Asking_is_fit r) :=
  by
  have z : entryΓ 4 (t_Asking_is_fit r) = [.val (enc (r.1 : Asking)), .any, .any, .any] := rfl
  rw [z]
  unfold b_Asking_is_fit
  exact (hl_guardC trivial (tb_of (to_or (tb_not (tb_val (tv_call C.toDx F_is_name (by decide) rfl (ea_cons (tv_any (tv_attr C.toDx (tv_var (i := 0) C.toDx rfl rfl rfl) (fun x : Asking => x.f_deck) (fun _ => ⟨_, rfl, rfl⟩) B.cls_Asking B.no_Asking_deck)) (ea_nil (R := .top)))))) (to_or (tb_not (tb_val (tv_call C.toDx F_are_picks (by decide) rfl (ea_cons (tv_any (tv_attr C.toDx (tv_var (i := 0) C.toDx rfl rfl rfl) (fun x : Asking => x.f_picks) (fun _ => ⟨_, rfl, rfl⟩) B.cls_Asking B.no_Asking_picks)) (ea_nil (R := .top)))))) (to_or1 (tb_not (tb_val (tv_call C.toDx F_is_middle (by decide) rfl (ea_cons (tv_any (tv_attr C.toDx (tv_var (i := 0) C.toDx rfl rfl rfl) (fun x : Asking => x.f_middle) (fun _ => ⟨_, rfl, rfl⟩) B.cls_Asking B.no_Asking_middle)) (ea_cons (tv_any (tv_attr C.toDx (tv_var (i := 0) C.toDx rfl rfl rfl) (fun x : Asking => x.f_deck) (fun _ => ⟨_, rfl, rfl⟩) B.cls_Asking B.no_Asking_deck)) (ea_nil (R := .top))))))))))) (hl_ret trivial (tv_bl (R := .fr/-p-/))) (hl_guardC trivial (tb_of (to_or (tb_cmp cmp_gt (fun _ _ _ h => nomatch h) (tv_b1 (R := .av/-p-/) C.toDx (b_lenL C.toDx) (fun _ _ h => nomatch h) (tv_attr C.toDx (tv_var (i := 0) C.toDx rfl rfl rfl) (fun x : Asking => x.f_order) (fun _ => ⟨_, rfl, rfl⟩) B.cls_Asking B.no_Asking_order) rfl B.n_len (by decide +kernel)) (tv_int (R := .av/-p-/)) rfl) (to_or (tb_cmp cmp_gt (fun _ _ _ h => nomatch h) (tv_b1 (R := .av/-p-/) C.toDx (b_lenL C.toDx) (fun _ _ h => nomatch h) (tv_attr C.toDx (tv_var (i := 0) C.toDx rfl rfl rfl) (fun x : Asking => x.f_sums) (fun _ => ⟨_, rfl, rfl⟩) B.cls_Asking B.no_Asking_sums) rfl B.n_len (by decide +kernel)) (tv_int (R := .av/-p-/)) rfl) (to_or1 (tb_not (tb_chN (tv_int (R := .av/-p-/)) (bt_cons ord_le (tv_attr C.toDx (tv_var (i := 0) C.toDx rfl rfl rfl) (fun x : Asking => x.f_figures) (fun _ => ⟨_, rfl, rfl⟩) B.cls_Asking B.no_Asking_figures) (bt_one ord_le (tv_int (R := .av/-p-/)))))))))) (hl_ret trivial (tv_bl (R := .fr/-p-/))) (hl_consL (G1 := (fun (s_507 : Unit) => [.val (enc (r.1 : Asking)), .any, .any, .any])) (hs_for (Gs := (fun (s_507 : Unit) => [.val (enc (r.1 : Asking)), .any, .any, .any])) (Γ1 := fun (s_508 : Unit) (x_513 : (Int × Int)) => [.val (enc (r.1 : Asking)), .val (enc (x_513 : (Int × Int))), .any, .any]) (s0 := ()) C trivial (es_list (tv_catF (R := .av/-p-/) (tv_attr C.toDx (tv_var (i := 0) C.toDx rfl rfl rfl) (fun x : Asking => x.f_order) (fun _ => ⟨_, rfl, rfl⟩) B.cls_Asking B.no_Asking_order) (tv_attr C.toDx (tv_var (i := 0) C.toDx rfl rfl rfl) (fun x : Asking => x.f_sums) (fun _ => ⟨_, rfl, rfl⟩) B.cls_Asking B.no_Asking_sums))) (Sub.same (Sub.same (Sub.same (Sub.same Sub.nil)))) (fun s_508 => (tg_name (i := 1) C.toDx rfl rfl (.inl C.fn) (fun _ => rfl))) (fun x_513 s_508 => (hl_guardC trivial (tb_not (tb_val (tv_call C.toDx F_is_field (by decide) rfl (ea_cons (tv_any (tv_var (i := 1) C.toDx rfl rfl rfl)) (ea_nil (R := .top)))))) (hl_ret trivial (tv_bl (R := .fr/-p-/))) (hl_end (Sub.same (Sub.any (Sub.same (Sub.same Sub.nil)))))))) (fun s_520 => (hl_guardC trivial (tb_of (to_or (tb_not (tb_chN (tv_int (R := .av/-p-/)) (bt_cons ord_le (tv_attr C.toDx (tv_var (i := 0) C.toDx rfl rfl rfl) (fun x : Asking => x.f_breaks) (fun _ => ⟨_, rfl, rfl⟩) B.cls_Asking B.no_Asking_breaks) (bt_one ord_le (tv_min (R := .av/-p-/) (x := "") C.toDx (tv_int (R := .av/-p-/)) (tv_b1 (R := .av/-p-/) C.toDx (b_lenL C.toDx) (fun _ _ h => nomatch h) (tv_attr C.toDx (tv_var (i := 0) C.toDx rfl rfl rfl) (fun x : Asking => x.f_order) (fun _ => ⟨_, rfl, rfl⟩) B.cls_Asking B.no_Asking_order) rfl B.n_len (by decide +kernel)) rfl B.n_min))))) (to_or1 (tb_not (tb_val (tv_call C.toDx F_is_board (by decide) rfl (ea_cons (tv_any (tv_attr C.toDx (tv_var (i := 0) C.toDx rfl rfl rfl) (fun x : Asking => x.f_board) (fun _ => ⟨_, rfl, rfl⟩) B.cls_Asking B.no_Asking_board)) (ea_nil (R := .top))))))))) (hl_ret trivial (tv_bl (R := .fr/-p-/))) (hl_set (i := 2) C trivial rfl rfl (tv_catF (R := .av/-p-/) (tv_catF (R := .av/-p-/) (tv_lc C.toDx (es_list (tv_attr C.toDx (tv_var (i := 0) C.toDx rfl rfl rfl) (fun x : Asking => x.f_picks) (fun _ => ⟨_, rfl, rfl⟩) B.cls_Asking B.no_Asking_picks)) (⟨⟨rfl, by decide +kernel, by decide +kernel, by decide +kernel, by decide +kernel⟩, by decide, fun s_b H_b D_b cl_b fp_b C_b => ⟨(tg_tup C_b (tgs_cons (Γ1 := fun (t_537 : (Int × Int)) => [.val (enc (r.1 : Asking)), .val (enc (t_537 : (Int × Int))), .any, .any]) (tg_name (i := 1) C_b rfl rfl (.inr rfl) (fun _ => rfl)) fun t_537 => (tgs_cons (Γ1 := fun (t_538 : Str) => [.val (enc (r.1 : Asking)), .val (enc (t_537 : (Int × Int))), .any, .val (enc (t_538 : Str))]) (tg_name (i := 3) C_b rfl rfl (.inr rfl) (fun _ => rfl)) fun t_538 => tgs_nil)) (fun p_539 : ((Int × Int) × Str) => (p_539.1, p_539.2, ())) (fun _ => rfl) (fun _ => rfl) (fun _ => rfl)), fun x_536 => eif_nil, fun x_536 => (tv_var (i := 1) C_b rfl rfl rfl)⟩⟩ : Blk G X N_Asking_is_fit 4 sc_Asking_is_fit _ _ _ _ _ _ [("field", 1), ("text", 3)] _ (α := ((Int × Int) × Str)) (β := (Int × Int)) (fun (x_536 : ((Int × Int) × Str)) => [.val (enc (r.1 : Asking)), .val (enc (x_536.1 : (Int × Int))), .any, .val (enc (x_536.2 : Str))]) (fun (x_536 : ((Int × Int) × Str)) => .ok true) (fun (x_536 : ((Int × Int) × Str)) => (.ok x_536.1 : Res (Int × Int)))) nod_flat) (tv_call C.toDx F_main_field (by decide) rfl (ea_cons (tv_any (tv_attr C.toDx (tv_var (i := 0) C.toDx rfl rfl rfl) (fun x : Asking => x.f_middle) (fun _ => ⟨_, rfl, rfl⟩) B.cls_Asking B.no_Asking_middle)) (ea_nil (R := .top))))) (tv_attr C.toDx (tv_var (i := 0) C.toDx rfl rfl rfl) (fun x : Asking => x.f_order) (fun _ => ⟨_, rfl, rfl⟩) B.cls_Asking B.no_Asking_order)) (Γ' := fun (guarded_534 : (List (Int × Int))) => [.val (enc (r.1 : Asking)), .any, .val (enc (guarded_534 : (List (Int × Int)))), .any]) (fun _ => rfl) fun guarded_534 => (hl_ret trivial (tv_flat (R := .fr) (tv_call C.toDx F_are_works (by decide) rfl (ea_cons (tv_any (tv_attr C.toDx (tv_var (i := 0) C.toDx rfl rfl rfl) (fun x : Asking => x.f_works) (fun _ => ⟨_, rfl, rfl⟩) B.cls_Asking B.no_Asking_works)) (ea_cons (tv_any (tv_var (i := 2) C.toDx rfl rfl rfl)) (ea_nil (R := .top)))))))))))))

/-! ### Asking.__init__ -/
abbrev N_AskingU_initU : List Str := ["self", "deck", "picks", "middle", "order", "works", "breaks", "sums", "figures", "board"]
abbrev P_AskingU_initU : List Str := ["self", "deck", "picks", "middle", "order", "works", "breaks", "sums", "figures", "board"]
abbrev sc_AskingU_initU : Scope := defScope (inClass (top 41) 0)
abbrev A_AskingU_initU : Type := (Str × ((List ((Int × Int) × Str)) × (Dt × ((List (Int × Int)) × ((Option (List (T4 (Int × Int) (Int × Int) Str (Int × Int)))) × (Int × ((Option (List (Int × Int))) × (Int × ((Option (List (Int × Int))) × Unit)))))))))
def t_AskingU_initU : A_AskingU_initU → List Dt := (tcons (α := Str) (tcons (α := (List ((Int × Int) × Str))) (tcons (α := Dt) (tcons (α := (List (Int × Int))) (tcons (α := (Option (List (T4 (Int × Int) (Int × Int) Str (Int × Int))))) (tcons (α := Int) (tcons (α := (Option (List (Int × Int)))) (tcons (α := Int) (tcons (α := (Option (List (Int × Int)))) tnil)))))))))
def b_AskingU_initU (r : A_AskingU_initU) : Res (Fl Asking Dt) := ((.ok r.1 : Res Str)).bind fun f_deck_555 => (((.ok r.2.1 : Res (List ((Int × Int) × Str)))).bind fun v_556 => .ok v_556).bind fun f_picks_557 => ((.ok r.2.2.1 : Res Dt)).bind fun f_middle_558 => (((.ok r.2.2.2.1 : Res (List (Int × Int)))).bind fun v_559 => .ok v_559).bind fun f_order_560 => ((((.ok r.2.2.2.2.1 : Res (Option (List (T4 (Int × Int) (Int × Int) Str (Int × Int)))))).bind fun v_561 => .ok (OptL.get v_561 : List (T4 (Int × Int) (Int × Int) Str (Int × Int)))).bind fun v_562 => .ok v_562).bind fun f_works_563 => ((.ok r.2.2.2.2.2.1 : Res Int)).bind fun f_breaks_564 => ((((.ok r.2.2.2.2.2.2.1 : Res (Option (List (Int × Int))))).bind fun v_565 => .ok (OptL.get v_565 : List (Int × Int))).bind fun v_566 => .ok v_566).bind fun f_sums_567 => ((.ok r.2.2.2.2.2.2.2.1 : Res Int)).bind fun f_figures_568 => ((((.ok r.2.2.2.2.2.2.2.2.1 : Res (Option (List (Int × Int))))).bind fun v_569 => .ok (OptL.get v_569 : List (Int × Int))).bind fun v_570 => .ok v_570).bind fun f_board_571 => ((((.ok (Asking.mk f_deck_555 f_picks_557 f_middle_558 f_order_560 f_works_563 f_breaks_564 f_sums_567 f_figures_568 f_board_571) : Res Asking).bind fun x => nox (m_Asking_is_fit (x, ())))).bind fun v_572 => .ok (!v_572)).bind fun z_573 => if z_573 = true then (.err : Res (Fl Asking Dt)).bind Fl.cut else .ok (.nx (Asking.mk f_deck_555 f_picks_557 f_middle_558 f_order_560 f_works_563 f_breaks_564 f_sums_567 f_figures_568 f_board_571))
def Fl.obj {S ρ : Type} : Fl S ρ → Res S
  | .nx s => .ok s
  | _ => .err
def m_AskingU_initU (r : A_AskingU_initU) : Res Asking := (b_AskingU_initU r).bind Fl.obj
theorem h_AskingU_initU {G : Gv} {X : Cx} {W : WX} (B : Bn G X.K X.mg) (C : Dd G X W N_AskingU_initU sc_AskingU_initU 5) (F_Asking_is_fit : Fy G X false 0 "is_fit" (Rt (fun x : Asking => [enc x]) (fun x => m_Asking_is_fit (x, ()))) [] 5) (r : A_AskingU_initU) : HL G X W none false (.own (.o 0 []) :: entryΓ 9 (t_AskingU_initU r)) (defBody (inClass (top 41) 0)) (fun st : Asking => [.own (.o 0 (flds_Asking st)), .any, .any, .any, .any, .any, .any, .any, .any, .any]) (b_AskingU_initU r) :=
  by
  have z : (Sl.own (.o 0 []) :: entryΓ 9 (t_AskingU_initU r)) = [.own (.o 0 []), .val (enc (r.1 : Str)), .val (enc (r.2.1 : (List ((Int × Int) × Str)))), .val (enc (r.2.2.1 : Dt)), .val (enc (r.2.2.2.1 : (List (Int × Int)))), .val (enc (r.2.2.2.2.1 : (Option (List (T4 (Int × Int) (Int × Int) Str (Int × Int)))))), .val (enc (r.2.2.2.2.2.1 : Int)), .val (enc (r.2.2.2.2.2.2.1 : (Option (List (Int × Int))))), .val (enc (r.2.2.2.2.2.2.2.1 : Int)), .val (enc (r.2.2.2.2.2.2.2.2.1 : (Option (List (Int × Int)))))] := rfl
  rw [z]
  unfold b_AskingU_initU
  exact (hl_attr (i := 0) C.toDx trivial rfl rfl rfl (tv_var (i := 1) C.toDx rfl rfl rfl) B.cls_Asking B.no_Asking_deck (Nat.le_of_ble_eq_true rfl) (Γ' := fun (f_deck_555 : Str) => [.own (.o 0 [("deck", enc (f_deck_555 : Str))]), .val (enc (r.1 : Str)), .val (enc (r.2.1 : (List ((Int × Int) × Str)))), .val (enc (r.2.2.1 : Dt)), .val (enc (r.2.2.2.1 : (List (Int × Int)))), .val (enc (r.2.2.2.2.1 : (Option (List (T4 (Int × Int) (Int × Int) Str (Int × Int)))))), .val (enc (r.2.2.2.2.2.1 : Int)), .val (enc (r.2.2.2.2.2.2.1 : (Option (List (Int × Int))))), .val (enc (r.2.2.2.2.2.2.2.1 : Int)), .val (enc (r.2.2.2.2.2.2.2.2.1 : (Option (List (Int × Int)))))]) (fun _ => rfl) fun f_deck_555 => (hl_attr (i := 0) C.toDx trivial rfl rfl rfl (tv_t1 (R := .av/-p-/) C.toDx (b_listF C.toDx) (fun _ _ h => nomatch h) (tv_var (i := 2) C.toDx rfl rfl rfl) rfl B.n_list (by decide +kernel)) B.cls_Asking B.no_Asking_picks (Nat.le_of_ble_eq_true rfl) (Γ' := fun (f_picks_557 : (List ((Int × Int) × Str))) => [.own (.o 0 [("deck", enc (f_deck_555 : Str)), ("picks", enc (f_picks_557 : (List ((Int × Int) × Str))))]), .val (enc (r.1 : Str)), .val (enc (r.2.1 : (List ((Int × Int) × Str)))), .val (enc (r.2.2.1 : Dt)), .val (enc (r.2.2.2.1 : (List (Int × Int)))), .val (enc (r.2.2.2.2.1 : (Option (List (T4 (Int × Int) (Int × Int) Str (Int × Int)))))), .val (enc (r.2.2.2.2.2.1 : Int)), .val (enc (r.2.2.2.2.2.2.1 : (Option (List (Int × Int))))), .val (enc (r.2.2.2.2.2.2.2.1 : Int)), .val (enc (r.2.2.2.2.2.2.2.2.1 : (Option (List (Int × Int)))))]) (fun _ => rfl) fun f_picks_557 => (hl_attr (i := 0) C.toDx trivial rfl rfl rfl (tv_var (i := 3) C.toDx rfl rfl rfl) B.cls_Asking B.no_Asking_middle (Nat.le_of_ble_eq_true rfl) (Γ' := fun (f_middle_558 : Dt) => [.own (.o 0 [("deck", enc (f_deck_555 : Str)), ("picks", enc (f_picks_557 : (List ((Int × Int) × Str)))), ("middle", enc (f_middle_558 : Dt))]), .val (enc (r.1 : Str)), .val (enc (r.2.1 : (List ((Int × Int) × Str)))), .val (enc (r.2.2.1 : Dt)), .val (enc (r.2.2.2.1 : (List (Int × Int)))), .val (enc (r.2.2.2.2.1 : (Option (List (T4 (Int × Int) (Int × Int) Str (Int × Int)))))), .val (enc (r.2.2.2.2.2.1 : Int)), .val (enc (r.2.2.2.2.2.2.1 : (Option (List (Int × Int))))), .val (enc (r.2.2.2.2.2.2.2.1 : Int)), .val (enc (r.2.2.2.2.2.2.2.2.1 : (Option (List (Int × Int)))))]) (fun _ => rfl) fun f_middle_558 => (hl_attr (i := 0) C.toDx trivial rfl rfl rfl (tv_t1 (R := .av/-p-/) C.toDx (b_listF C.toDx) (fun _ _ h => nomatch h) (tv_var (i := 4) C.toDx rfl rfl rfl) rfl B.n_list (by decide +kernel)) B.cls_Asking B.no_Asking_order (Nat.le_of_ble_eq_true rfl) (Γ' := fun (f_order_560 : (List (Int × Int))) => [.own (.o 0 [("deck", enc (f_deck_555 : Str)), ("picks", enc (f_picks_557 : (List ((Int × Int) × Str)))), ("middle", enc (f_middle_558 : Dt)), ("order", enc (f_order_560 : (List (Int × Int))))]), .val (enc (r.1 : Str)), .val (enc (r.2.1 : (List ((Int × Int) × Str)))), .val (enc (r.2.2.1 : Dt)), .val (enc (r.2.2.2.1 : (List (Int × Int)))), .val (enc (r.2.2.2.2.1 : (Option (List (T4 (Int × Int) (Int × Int) Str (Int × Int)))))), .val (enc (r.2.2.2.2.2.1 : Int)), .val (enc (r.2.2.2.2.2.2.1 : (Option (List (Int × Int))))), .val (enc (r.2.2.2.2.2.2.2.1 : Int)), .val (enc (r.2.2.2.2.2.2.2.2.1 : (Option (List (Int × Int)))))]) (fun _ => rfl) fun f_order_560 => (hl_attr (i := 0) C.toDx trivial rfl rfl rfl (tv_t1 (R := .av/-p-/) C.toDx (b_listF C.toDx) (fun _ _ h => nomatch h) (tv_orL C.toDx (tv_var (i := 5) C.toDx rfl rfl rfl)) rfl B.n_list (by decide +kernel)) B.cls_Asking B.no_Asking_works (Nat.le_of_ble_eq_true rfl) (Γ' := fun (f_works_563 : (List (T4 (Int × Int) (Int × Int) Str (Int × Int)))) => [.own (.o 0 [("deck", enc (f_deck_555 : Str)), ("picks", enc (f_picks_557 : (List ((Int × Int) × Str)))), ("middle", enc (f_middle_558 : Dt)), ("order", enc (f_order_560 : (List (Int × Int)))), ("works", enc (f_works_563 : (List (T4 (Int × Int) (Int × Int) Str (Int × Int)))))]), .val (enc (r.1 : Str)), .val (enc (r.2.1 : (List ((Int × Int) × Str)))), .val (enc (r.2.2.1 : Dt)), .val (enc (r.2.2.2.1 : (List (Int × Int)))), .val (enc (r.2.2.2.2.1 : (Option (List (T4 (Int × Int) (Int × Int) Str (Int × Int)))))), .val (enc (r.2.2.2.2.2.1 : Int)), .val (enc (r.2.2.2.2.2.2.1 : (Option (List (Int × Int))))), .val (enc (r.2.2.2.2.2.2.2.1 : Int)), .val (enc (r.2.2.2.2.2.2.2.2.1 : (Option (List (Int × Int)))))]) (fun _ => rfl) fun f_works_563 => (hl_attr (i := 0) C.toDx trivial rfl rfl rfl (tv_var (i := 6) C.toDx rfl rfl rfl) B.cls_Asking B.no_Asking_breaks (Nat.le_of_ble_eq_true rfl) (Γ' := fun (f_breaks_564 : Int) => [.own (.o 0 [("deck", enc (f_deck_555 : Str)), ("picks", enc (f_picks_557 : (List ((Int × Int) × Str)))), ("middle", enc (f_middle_558 : Dt)), ("order", enc (f_order_560 : (List (Int × Int)))), ("works", enc (f_works_563 : (List (T4 (Int × Int) (Int × Int) Str (Int × Int))))), ("breaks", enc (f_breaks_564 : Int))]), .val (enc (r.1 : Str)), .val (enc (r.2.1 : (List ((Int × Int) × Str)))), .val (enc (r.2.2.1 : Dt)), .val (enc (r.2.2.2.1 : (List (Int × Int)))), .val (enc (r.2.2.2.2.1 : (Option (List (T4 (Int × Int) (Int × Int) Str (Int × Int)))))), .val (enc (r.2.2.2.2.2.1 : Int)), .val (enc (r.2.2.2.2.2.2.1 : (Option (List (Int × Int))))), .val (enc (r.2.2.2.2.2.2.2.1 : Int)), .val (enc (r.2.2.2.2.2.2.2.2.1 : (Option (List (Int × Int)))))]) (fun _ => rfl) fun f_breaks_564 => (hl_attr (i := 0) C.toDx trivial rfl rfl rfl (tv_t1 (R := .av/-p-/) C.toDx (b_listF C.toDx) (fun _ _ h => nomatch h) (tv_orL C.toDx (tv_var (i := 7) C.toDx rfl rfl rfl)) rfl B.n_list (by decide +kernel)) B.cls_Asking B.no_Asking_sums (Nat.le_of_ble_eq_true rfl) (Γ' := fun (f_sums_567 : (List (Int × Int))) => [.own (.o 0 [("deck", enc (f_deck_555 : Str)), ("picks", enc (f_picks_557 : (List ((Int × Int) × Str)))), ("middle", enc (f_middle_558 : Dt)), ("order", enc (f_order_560 : (List (Int × Int)))), ("works", enc (f_works_563 : (List (T4 (Int × Int) (Int × Int) Str (Int × Int))))), ("breaks", enc (f_breaks_564 : Int)), ("sums", enc (f_sums_567 : (List (Int × Int))))]), .val (enc (r.1 : Str)), .val (enc (r.2.1 : (List ((Int × Int) × Str)))), .val (enc (r.2.2.1 : Dt)), .val (enc (r.2.2.2.1 : (List (Int × Int)))), .val (enc (r.2.2.2.2.1 : (Option (List (T4 (Int × Int) (Int × Int) Str (Int × Int)))))), .val (enc (r.2.2.2.2.2.1 : Int)), .val (enc (r.2.2.2.2.2.2.1 : (Option (List (Int × Int))))), .val (enc (r.2.2.2.2.2.2.2.1 : Int)), .val (enc (r.2.2.2.2.2.2.2.2.1 : (Option (List (Int × Int)))))]) (fun _ => rfl) fun f_sums_567 => (hl_attr (i := 0) C.toDx trivial rfl rfl rfl (tv_var (i := 8) C.toDx rfl rfl rfl) B.cls_Asking B.no_Asking_figures (Nat.le_of_ble_eq_true rfl) (Γ' := fun (f_figures_568 : Int) => [.own (.o 0 [("deck", enc (f_deck_555 : Str)), ("picks", enc (f_picks_557 : (List ((Int × Int) × Str)))), ("middle", enc (f_middle_558 : Dt)), ("order", enc (f_order_560 : (List (Int × Int)))), ("works", enc (f_works_563 : (List (T4 (Int × Int) (Int × Int) Str (Int × Int))))), ("breaks", enc (f_breaks_564 : Int)), ("sums", enc (f_sums_567 : (List (Int × Int)))), ("figures", enc (f_figures_568 : Int))]), .val (enc (r.1 : Str)), .val (enc (r.2.1 : (List ((Int × Int) × Str)))), .val (enc (r.2.2.1 : Dt)), .val (enc (r.2.2.2.1 : (List (Int × Int)))), .val (enc (r.2.2.2.2.1 : (Option (List (T4 (Int × Int) (Int × Int) Str (Int × Int)))))), .val (enc (r.2.2.2.2.2.1 : Int)), .val (enc (r.2.2.2.2.2.2.1 : (Option (List (Int × Int))))), .val (enc (r.2.2.2.2.2.2.2.1 : Int)), .val (enc (r.2.2.2.2.2.2.2.2.1 : (Option (List (Int × Int)))))]) (fun _ => rfl) fun f_figures_568 => (hl_attr (i := 0) C.toDx trivial rfl rfl rfl (tv_t1 (R := .av/-p-/) C.toDx (b_listF C.toDx) (fun _ _ h => nomatch h) (tv_orL C.toDx (tv_var (i := 9) C.toDx rfl rfl rfl)) rfl B.n_list (by decide +kernel)) B.cls_Asking B.no_Asking_board (Nat.le_of_ble_eq_true rfl) (Γ' := fun (f_board_571 : (List (Int × Int))) => [.own (.o 0 [("deck", enc (f_deck_555 : Str)), ("picks", enc (f_picks_557 : (List ((Int × Int) × Str)))), ("middle", enc (f_middle_558 : Dt)), ("order", enc (f_order_560 : (List (Int × Int)))), ("works", enc (f_works_563 : (List (T4 (Int × Int) (Int × Int) Str (Int × Int))))), ("breaks", enc (f_breaks_564 : Int)), ("sums", enc (f_sums_567 : (List (Int × Int)))), ("figures", enc (f_figures_568 : Int)), ("board", enc (f_board_571 : (List (Int × Int))))]), .val (enc (r.1 : Str)), .val (enc (r.2.1 : (List ((Int × Int) × Str)))), .val (enc (r.2.2.1 : Dt)), .val (enc (r.2.2.2.1 : (List (Int × Int)))), .val (enc (r.2.2.2.2.1 : (Option (List (T4 (Int × Int) (Int × Int) Str (Int × Int)))))), .val (enc (r.2.2.2.2.2.1 : Int)), .val (enc (r.2.2.2.2.2.2.1 : (Option (List (Int × Int))))), .val (enc (r.2.2.2.2.2.2.2.1 : Int)), .val (enc (r.2.2.2.2.2.2.2.2.1 : (Option (List (Int × Int)))))]) (fun _ => rfl) fun f_board_571 => (hl_guardC trivial (tb_not (tb_val (tv_meth0 C.toDx F_Asking_is_fit (by decide) (tv_self (i := 0) C.toDx rfl rfl rfl) (fun _ => ⟨_, rfl, rfl⟩)))) hl_err (hl_end (Sub.same (Sub.any (Sub.any (Sub.any (Sub.any (Sub.any (Sub.any (Sub.any (Sub.any (Sub.any Sub.nil)))))))))))))))))))))

/-! ### deck_in -/
abbrev N_deck_in : List Str := ["trays", "name", "deck"]
abbrev P_deck_in : List Str := ["trays", "name"]
abbrev sc_deck_in : Scope := defScope (top 25)
abbrev A_deck_in : Type := ((Dct Str (List Str)) × (Str × Unit))
def t_deck_in : A_deck_in → List Dt := (tcons (α := (Dct Str (List Str))) (tcons (α := Str) tnil))
def b_deck_in (r : A_deck_in) : Res (Fl Unit (List Str)) := (nox ((((.ok r.1 : Res (Dct Str (List Str)))).bind fun v_579 => ((.ok r.2.1 : Res Str)).bind fun v_580 => dgetR v_579.kvs v_580).bind fun deck_578 => .ok (.nx (deck_578, ())) : Res (Fl ((List Str) × Unit) (List Str)))).bind fun f => f.goL (fun s_581 => (((.ok s_581.1 : Res (List Str))).bind fun v_582 => .ok v_582).bind fun r_583 => .ok (.rt r_583))
def m_deck_in (r : A_deck_in) : Res (List Str) := (b_deck_in r).bind (Fl.fin fun _ => .err)
theorem h_deck_in {G : Gv} {X : Cx} {W : WX} (B : Bn G X.K X.mg) (C : Dd G X W N_deck_in sc_deck_in 0) (r : A_deck_in) : HL G X W none false (entryΓ 3 (t_deck_in r)) (defBody (top 25)) (fun _ : Unit => [.any, .any, .any]) (b_deck_in r) :=
  by
  have z : entryΓ 3 (t_deck_in r) = [.val (enc (r.1 : (Dct Str (List Str)))), .val (enc (r.2.1 : Str)), .any] := rfl
  rw [z]
  unfold b_deck_in
  exact (hl_one (hs_tryL (G1 := (fun (s_577 : ((List Str) × Unit)) => [.val (enc (r.1 : (Dct Str (List Str)))), .val (enc (r.2.1 : Str)), .val (enc (s_577.1 : (List Str)))])) C (have C := dd_nox C; (hl_set (i := 2) C trivial rfl rfl (tv_dget C.toDx (tv_var (i := 0) C.toDx rfl rfl rfl) (tv_var (i := 1) C.toDx rfl rfl rfl)) (Γ' := fun (deck_578 : (List Str)) => [.val (enc (r.1 : (Dct Str (List Str)))), .val (enc (r.2.1 : Str)), .val (enc (deck_578 : (List Str)))]) (fun _ => rfl) fun deck_578 => (hl_end (Sub.same (Sub.same (Sub.same Sub.nil)))))) (fun s_581 => (hl_ret trivial (tv_t1 (R := .fr/-p-/) C.toDx (b_listF C.toDx) (fun _ _ h => nomatch h) (tv_var (i := 2) C.toDx rfl rfl rfl) rfl B.n_list (by decide +kernel))))))

/-! ### in_order -/
abbrev ls_in_order : Scope := lamScope (defBody (top 26))
abbrev N_in_order : List Str := ["deck", "columns"]
abbrev P_in_order : List Str := ["deck", "columns"]
abbrev sc_in_order : Scope := defScope (top 26)
abbrev A_in_order : Type := ((List Str) × ((List Int) × Unit))
def t_in_order : A_in_order → List Dt := (tcons (α := (List Str)) (tcons (α := (List Int)) tnil))
def b_in_order (r : A_in_order) : Res (Fl Unit (List Str)) := (((.ok r.1 : Res (List Str))).bind fun xs_593 => sortK (fun (x_584 : Str) => ((.ok r.2.1 : Res (List Int))).bind fun v_592 => nox (lcR v_592 (fun (x_585 : Int) => .ok true) (fun (x_585 : Int) => ((((.ok x_584 : Res Str)).bind fun v_588 => (((.ok x_585 : Res Int)).bind fun v_586 => ((.ok 1 : Res Int)).bind fun v_587 => .ok (v_586 - v_587)).bind fun v_589 => getS v_588 v_589).bind fun a_590 => ((.ok () : Res Unit)).bind fun r_591 => .ok (a_590, r_591)).bind m_rank_of))) xs_593).bind fun r_594 => .ok (.rt r_594)
def m_in_order (r : A_in_order) : Res (List Str) := (b_in_order r).bind (Fl.fin fun _ => .err)
theorem h_in_order {G : Gv} {X : Cx} {W : WX} (B : Bn G X.K X.mg) (C : Dd G X W N_in_order sc_in_order 4) (Lt_ : Lt G X) (F_rank_of : Fx G X false "rank_of" (Rt t_rank_of m_rank_of) [] 1) (r : A_in_order) : HL G X W none false (entryΓ 2 (t_in_order r)) (defBody (top 26)) (fun _ : Unit => [.any, .any]) (b_in_order r) :=
  by
  have z : entryΓ 2 (t_in_order r) = [.val (enc (r.1 : (List Str))), .val (enc (r.2.1 : (List Int)))] := rfl
  rw [z]
  unfold b_in_order
  exact (hl_ret trivial (tv_fr (tv_sortLam' (p := "card") (q := "columns") (rest := ["column"]) (iq := 1) (cols := r.2.1) (kf := (fun (x_584 : Str) => ((.ok r.2.1 : Res (List Int))).bind fun v_592 => nox (lcR v_592 (fun (x_585 : Int) => .ok true) (fun (x_585 : Int) => ((((.ok x_584 : Res Str)).bind fun v_588 => (((.ok x_585 : Res Int)).bind fun v_586 => ((.ok 1 : Res Int)).bind fun v_587 => .ok (v_586 - v_587)).bind fun v_589 => getS v_588 v_589).bind fun a_590 => ((.ok () : Res Unit)).bind fun r_591 => .ok (a_590, r_591)).bind m_rank_of)))) (k' := 1) Lt_ C.toDx (by decide) rfl B.n_sorted (tv_var (i := 0) C.toDx rfl rfl rfl) ⟨rfl, rfl, rfl, rfl, by decide⟩ (N' := ["card", "columns", "column"]) rfl (by decide) rfl rfl rfl rfl (fun _ _ _ _ _ => rfl) (fun A_l s_l H_l f_l c_l C_l x_584 => (tv_lc C_l (es_list (tv_var (i := 1) C_l rfl rfl rfl)) (⟨⟨rfl, by decide +kernel, by decide +kernel, by decide +kernel, by decide +kernel⟩, by decide, fun s_b H_b D_b cl_b fp_b C_b => ⟨(tg_name (i := 2) C_b rfl rfl (.inr rfl) (fun _ => rfl)), fun x_585 => eif_nil, fun x_585 => (tv_flat (R := .av) (tv_call C_b F_rank_of (by decide) rfl (ea_cons (tv_ixS (R := .top/-p-/) (tv_var (i := 0) C_b rfl rfl rfl) (tv_sub (R := .top/-p-/) (tv_var (i := 2) C_b rfl rfl rfl) (tv_int (R := .top/-p-/)))) (ea_nil (R := .top)))))⟩⟩ : Blk G (lcx X ["card", "columns", "column"] A_l X.stack s_l H_l (lenv X ls_in_order "card" s_l.heap.objs.size f_l c_l)) ["card", "columns", "column"] 1 ls_in_order _ _ _ _ _ _ [("column", 2)] _ (α := Int) (β := Int) (fun (x_585 : Int) => [.val (enc (x_584 : Str)), .val (enc (r.2.1 : (List Int))), .val (enc (x_585 : Int))]) (fun (x_585 : Int) => .ok true) (fun (x_585 : Int) => ((((.ok x_584 : Res Str)).bind fun v_588 => (((.ok x_585 : Res Int)).bind fun v_586 => ((.ok 1 : Res Int)).bind fun v_587 => .ok (v_586 - v_587)).bind fun v_589 => getS v_588 v_589).bind fun a_590 => ((.ok () : Res Unit)).bind fun r_591 => .ok (a_590, r_591)).bind m_rank_of)) nod_flat)))))

end CS
namespace CS
open Enc (enc)
open PySem PySem.Spec PyProof.Rows L2
/-! ### behind_middle -/
abbrev N_behind_middle : List Str := ["deck", "middle", "trays", "word", "name", "field", "other_field", "parts", "card", "found"]
abbrev P_behind_middle : List Str := ["deck", "middle", "trays"]
abbrev sc_behind_middle : Scope := defScope (top 29)
abbrev A_behind_middle : Type := ((List Str) × (Dt × ((Dct Str (List Str)) × Unit)))
def t_behind_middle : A_behind_middle → List Dt := (tcons (α := (List Str)) (tcons (α := Dt) (tcons (α := (Dct Str (List Str))) tnil)))
def b_behind_middle (r : A_behind_middle) : Res (Fl Unit (List Str)) := (((.ok r.2.1 : Res Dt)).bind fun v_595 => ((.ok () : Res Unit)).bind fun v_596 => .ok v_595.isN).bind fun z_597 => if z_597 = true then (((.ok r.1 : Res (List Str))).bind fun r_598 => .ok (.rt r_598) : Res (Fl Unit (List Str))).bind Fl.cut else (((((.ok r.2.1 : Res Dt)).bind fun v_599 => dtAt v_599 0).bind (cast Str)).bind fun v_600 => ((.ok "first" : Res Str)).bind fun v_601 => .ok (decide (v_600 = v_601))).bind fun z_602 => if z_602 = true then (((((((.ok r.1 : Res (List Str))).bind fun a_608 => (((((((.ok r.2.1 : Res Dt)).bind fun v_603 => dtAt v_603 1).bind (cast (Int × Int))).bind fun a_604 => ((.ok () : Res Unit)).bind fun r_605 => .ok (a_604, r_605)).bind m_columns_of).bind fun a_606 => ((.ok () : Res Unit)).bind fun r_607 => .ok (a_606, r_607)).bind fun r_609 => .ok (a_608, r_609)).bind m_in_order).bind fun a_613 => (((((.ok r.2.1 : Res Dt)).bind fun v_610 => dtAt v_610 1).bind (cast (Int × Int))).bind fun a_611 => ((.ok () : Res Unit)).bind fun r_612 => .ok (a_611, r_612)).bind fun r_614 => .ok (a_613, r_614)).bind m_first_of_each).bind fun r_615 => .ok (.rt r_615) : Res (Fl Unit (List Str))).bind Fl.cut else (((.ok r.2.1 : Res Dt)).bind (cast (T4 Str Str (Int × Int) (Int × Int)))).bind fun tp_616 => (((((.ok r.2.2.1 : Res (Dct Str (List Str)))).bind fun a_626 => (((.ok tp_616.b : Res Str)).bind fun a_624 => ((.ok () : Res Unit)).bind fun r_625 => .ok (a_624, r_625)).bind fun r_627 => .ok (a_626, r_627)).bind m_deck_in).bind fun xs_636 => forR xs_636 ((([] : List (Str × Bool)), ()) : ((List (Str × Bool)) × Unit)) (fun (x_628 : Str) (s_623 : ((List (Str × Bool)) × Unit)) => ((.ok true : Res Bool)).bind fun a_634 => ((((.ok x_628 : Res Str)).bind fun a_632 => (((.ok tp_616.d : Res (Int × Int))).bind fun a_630 => ((.ok () : Res Unit)).bind fun r_631 => .ok (a_630, r_631)).bind fun r_633 => .ok (a_632, r_633)).bind m_part_of).bind fun j_635 => chk (s_623.1.length < SZ) ((fun (parts_629 : List (Str × Bool)) => .ok (.nx (parts_629, ()))) (dput s_623.1 j_635 a_634))) : Res (Fl ((List (Str × Bool)) × Unit) (List Str))).bind fun f => f.goL (fun s_637 => (((((.ok r.1 : Res (List Str))).bind fun a_644 => (((((.ok tp_616.c : Res (Int × Int))).bind fun a_640 => ((.ok () : Res Unit)).bind fun r_641 => .ok (a_640, r_641)).bind m_columns_of).bind fun a_642 => ((.ok () : Res Unit)).bind fun r_643 => .ok (a_642, r_643)).bind fun r_645 => .ok (a_644, r_645)).bind m_in_order).bind fun xs_660 => forR xs_660 ((([] : List Str), ()) : ((List Str) × Unit)) (fun (x_646 : Str) (s_639 : ((List Str) × Unit)) => ((((((.ok x_646 : Res Str)).bind fun a_649 => (((.ok tp_616.c : Res (Int × Int))).bind fun a_647 => ((.ok () : Res Unit)).bind fun r_648 => .ok (a_647, r_648)).bind fun r_650 => .ok (a_649, r_650)).bind m_part_of).bind fun v_651 => ((.ok (Dct.mk s_637.1) : Res (Dct Str Bool))).bind fun v_652 => .ok (dget v_652.kvs v_651).isSome).bind fun v_655 => (((.ok tp_616.a : Res Str)).bind fun v_653 => ((.ok "mates" : Res Str)).bind fun v_654 => .ok (decide (v_653 = v_654))).bind fun v_656 => .ok (decide (v_655 = v_656))).bind fun z_657 => if z_657 = true then ((.ok x_646 : Res Str)).bind fun a_659 => chk (s_639.1.length < SZ) ((fun (found_658 : (List Str)) => .ok (.nx (found_658, ()))) (s_639.1 ++ [a_659])) else .ok (.nx (s_639.1, ()))) : Res (Fl ((List Str) × Unit) (List Str))).bind fun f => f.goL (fun s_661 => (.ok s_661.1 : Res (List Str)).bind fun r_662 => .ok (.rt r_662)))
def m_behind_middle (r : A_behind_middle) : Res (List Str) := (b_behind_middle r).bind (Fl.fin fun _ => .err)
theorem h_behind_middle {G : Gv} {X : Cx} {W : WX} (B : Bn G X.K X.mg) (C : Dd G X W N_behind_middle sc_behind_middle 5) (F_first_of_each : Fx G X false "first_of_each" (Rt t_first_of_each m_first_of_each) [] 2) (F_in_order : Fx G X false "in_order" (Rt t_in_order m_in_order) [] 5) (F_columns_of : Fx G X false "columns_of" (Rt t_columns_of m_columns_of) [] 1) (F_deck_in : Fx G X false "deck_in" (Rt t_deck_in m_deck_in) [] 1) (F_part_of : Fx G X false "part_of" (Rt t_part_of m_part_of) [] 1) (r : A_behind_middle) : HL G X W none true (entryΓ 10 (t_behind_middle r)) (defBody (top 29)) (fun _ : Unit => [.any, .any, .any, .any, .any, .any, .any, .any, .any, .any]) (b_behind_middle r) :=
  by
  have z : entryΓ 10 (t_behind_middle r) = [.val (enc (r.1 : (List Str))), .val (enc (r.2.1 : Dt)), .val (enc (r.2.2.1 : (Dct Str (List Str)))), .any, .any, .any, .any, .any, .any, .any] := rfl
  rw [z]
  unfold b_behind_middle
  exact (hl_guardC trivial (tb_cmp cmp_isN (fun _ _ _ h => nomatch h) (tv_var (i := 1) C.toDx rfl rfl rfl) (tv_non (R := .av)) rfl) (hl_retA trivial (tv_var (i := 0) C.toDx rfl rfl rfl)) (hl_guardC trivial (tb_cmp (cmp_eq C.toDx (by decide)) (fun _ _ _ h => nomatch h) (tv_cast (tv_ixD C.toDx (tv_var (i := 1) C.toDx rfl rfl rfl))) (tv_str (R := .av/-p-/)) rfl) (hl_ret trivial (tv_fr (tv_call C.toDx F_first_of_each (by decide) rfl (ea_cons (tv_any (tv_call C.toDx F_in_order (by decide) rfl (ea_cons (tv_any (tv_var (i := 0) C.toDx rfl rfl rfl)) (ea_cons (tv_any (tv_call C.toDx F_columns_of (by decide) rfl (ea_cons (tv_any (tv_cast (tv_ixD C.toDx (tv_var (i := 1) C.toDx rfl rfl rfl)))) (ea_nil (R := .top))))) (ea_nil (R := .top)))))) (ea_cons (tv_any (tv_cast (tv_ixD C.toDx (tv_var (i := 1) C.toDx rfl rfl rfl)))) (ea_nil (R := .top))))))) (hl_tgt C trivial (tv_cast (tv_var (i := 1) C.toDx rfl rfl rfl)) (tg_tup C.toDx (tgs_cons (Γ1 := fun (t_617 : Str) => [.val (enc (r.1 : (List Str))), .val (enc (r.2.1 : Dt)), .val (enc (r.2.2.1 : (Dct Str (List Str)))), .val (enc (t_617 : Str)), .any, .any, .any, .any, .any, .any]) (tg_name (i := 3) C.toDx rfl rfl (.inl C.fn) (fun _ => rfl)) fun t_617 => (tgs_cons (Γ1 := fun (t_618 : Str) => [.val (enc (r.1 : (List Str))), .val (enc (r.2.1 : Dt)), .val (enc (r.2.2.1 : (Dct Str (List Str)))), .val (enc (t_617 : Str)), .val (enc (t_618 : Str)), .any, .any, .any, .any, .any]) (tg_name (i := 4) C.toDx rfl rfl (.inl C.fn) (fun _ => rfl)) fun t_618 => (tgs_cons (Γ1 := fun (t_619 : (Int × Int)) => [.val (enc (r.1 : (List Str))), .val (enc (r.2.1 : Dt)), .val (enc (r.2.2.1 : (Dct Str (List Str)))), .val (enc (t_617 : Str)), .val (enc (t_618 : Str)), .val (enc (t_619 : (Int × Int))), .any, .any, .any, .any]) (tg_name (i := 5) C.toDx rfl rfl (.inl C.fn) (fun _ => rfl)) fun t_619 => (tgs_cons (Γ1 := fun (t_620 : (Int × Int)) => [.val (enc (r.1 : (List Str))), .val (enc (r.2.1 : Dt)), .val (enc (r.2.2.1 : (Dct Str (List Str)))), .val (enc (t_617 : Str)), .val (enc (t_618 : Str)), .val (enc (t_619 : (Int × Int))), .val (enc (t_620 : (Int × Int))), .any, .any, .any]) (tg_name (i := 6) C.toDx rfl rfl (.inl C.fn) (fun _ => rfl)) fun t_620 => tgs_nil)))) (fun p_621 : (T4 Str Str (Int × Int) (Int × Int)) => (p_621.a, p_621.b, p_621.c, p_621.d, ())) (fun _ => rfl) (fun _ => rfl) (fun _ => rfl)) (Γ' := fun (tp_616 : (T4 Str Str (Int × Int) (Int × Int))) => [.val (enc (r.1 : (List Str))), .val (enc (r.2.1 : Dt)), .val (enc (r.2.2.1 : (Dct Str (List Str)))), .val (enc (tp_616.a : Str)), .val (enc (tp_616.b : Str)), .val (enc (tp_616.c : (Int × Int))), .val (enc (tp_616.d : (Int × Int))), .any, .any, .any]) fun tp_616 => (hl_nilD (i := 7) C rfl rfl (by decide) (Nat.le_of_ble_eq_true rfl) (Γ' := [.val (enc (r.1 : (List Str))), .val (enc (r.2.1 : Dt)), .val (enc (r.2.2.1 : (Dct Str (List Str)))), .val (enc (tp_616.a : Str)), .val (enc (tp_616.b : Str)), .val (enc (tp_616.c : (Int × Int))), .val (enc (tp_616.d : (Int × Int))), .own (.d (dk (([] : List (Str × Bool)) : List (Str × Bool)))), .any, .any]) rfl (hl_consL (G1 := (fun (s_622 : ((List (Str × Bool)) × Unit)) => [.val (enc (r.1 : (List Str))), .val (enc (r.2.1 : Dt)), .val (enc (r.2.2.1 : (Dct Str (List Str)))), .val (enc (tp_616.a : Str)), .val (enc (tp_616.b : Str)), .val (enc (tp_616.c : (Int × Int))), .val (enc (tp_616.d : (Int × Int))), .own (.d (dk (s_622.1 : List (Str × Bool)))), .any, .any])) (hs_for (Gs := (fun (s_622 : ((List (Str × Bool)) × Unit)) => [.val (enc (r.1 : (List Str))), .val (enc (r.2.1 : Dt)), .val (enc (r.2.2.1 : (Dct Str (List Str)))), .val (enc (tp_616.a : Str)), .val (enc (tp_616.b : Str)), .val (enc (tp_616.c : (Int × Int))), .val (enc (tp_616.d : (Int × Int))), .own (.d (dk (s_622.1 : List (Str × Bool)))), .any, .any])) (Γ1 := fun (s_623 : ((List (Str × Bool)) × Unit)) (x_628 : Str) => [.val (enc (r.1 : (List Str))), .val (enc (r.2.1 : Dt)), .val (enc (r.2.2.1 : (Dct Str (List Str)))), .val (enc (tp_616.a : Str)), .val (enc (tp_616.b : Str)), .val (enc (tp_616.c : (Int × Int))), .val (enc (tp_616.d : (Int × Int))), .own (.d (dk (s_623.1 : List (Str × Bool)))), .val (enc (x_628 : Str)), .any]) (s0 := (([] : List (Str × Bool)), ())) C trivial (es_list (tv_av (tv_call C.toDx F_deck_in (by decide) rfl (ea_cons (tv_any (tv_var (i := 2) C.toDx rfl rfl rfl)) (ea_cons (tv_any (tv_var (i := 4) C.toDx rfl rfl rfl)) (ea_nil (R := .top))))))) (Sub.same (Sub.same (Sub.same (Sub.same (Sub.same (Sub.same (Sub.same (Sub.same (Sub.same (Sub.same Sub.nil)))))))))) (fun s_623 => (tg_name (i := 8) C.toDx rfl rfl (.inl C.fn) (fun _ => rfl))) (fun x_628 s_623 => (hl_dput (i := 7) (kvs := s_623.1) (M := fun (parts_629 : List (Str × Bool)) => .ok (.nx (parts_629, ()))) C.toDx trivial rfl rfl rfl (tv_bl (R := .av/-p-/)) (tv_call C.toDx F_part_of (by decide) rfl (ea_cons (tv_any (tv_var (i := 8) C.toDx rfl rfl rfl)) (ea_cons (tv_any (tv_var (i := 6) C.toDx rfl rfl rfl)) (ea_nil (R := .top))))) (Γ' := fun (parts_629 : List (Str × Bool)) => [.val (enc (r.1 : (List Str))), .val (enc (r.2.1 : Dt)), .val (enc (r.2.2.1 : (Dct Str (List Str)))), .val (enc (tp_616.a : Str)), .val (enc (tp_616.b : Str)), .val (enc (tp_616.c : (Int × Int))), .val (enc (tp_616.d : (Int × Int))), .own (.d (dk (parts_629 : List (Str × Bool)))), .val (enc (x_628 : Str)), .any]) (fun _ => rfl) fun parts_629 => (hl_end (Sub.same (Sub.same (Sub.same (Sub.same (Sub.same (Sub.same (Sub.same (Sub.same (Sub.any (Sub.same Sub.nil)))))))))))))) (fun s_637 => (hl_nilL (i := 9) C rfl rfl (by decide) (Nat.le_of_ble_eq_true rfl) (Γ' := [.val (enc (r.1 : (List Str))), .val (enc (r.2.1 : Dt)), .val (enc (r.2.2.1 : (Dct Str (List Str)))), .val (enc (tp_616.a : Str)), .val (enc (tp_616.b : Str)), .val (enc (tp_616.c : (Int × Int))), .val (enc (tp_616.d : (Int × Int))), .own (.d (dk (s_637.1 : List (Str × Bool)))), .any, .own (.l ((([] : List Str) : List Str).map enc))]) rfl (hl_consL (G1 := (fun (s_638 : ((List Str) × Unit)) => [.val (enc (r.1 : (List Str))), .val (enc (r.2.1 : Dt)), .val (enc (r.2.2.1 : (Dct Str (List Str)))), .val (enc (tp_616.a : Str)), .val (enc (tp_616.b : Str)), .val (enc (tp_616.c : (Int × Int))), .val (enc (tp_616.d : (Int × Int))), .own (.d (dk (s_637.1 : List (Str × Bool)))), .any, .own (.l ((s_638.1 : List Str).map enc))])) (hs_for (Gs := (fun (s_638 : ((List Str) × Unit)) => [.val (enc (r.1 : (List Str))), .val (enc (r.2.1 : Dt)), .val (enc (r.2.2.1 : (Dct Str (List Str)))), .val (enc (tp_616.a : Str)), .val (enc (tp_616.b : Str)), .val (enc (tp_616.c : (Int × Int))), .val (enc (tp_616.d : (Int × Int))), .own (.d (dk (s_637.1 : List (Str × Bool)))), .any, .own (.l ((s_638.1 : List Str).map enc))])) (Γ1 := fun (s_639 : ((List Str) × Unit)) (x_646 : Str) => [.val (enc (r.1 : (List Str))), .val (enc (r.2.1 : Dt)), .val (enc (r.2.2.1 : (Dct Str (List Str)))), .val (enc (tp_616.a : Str)), .val (enc (tp_616.b : Str)), .val (enc (tp_616.c : (Int × Int))), .val (enc (tp_616.d : (Int × Int))), .own (.d (dk (s_637.1 : List (Str × Bool)))), .val (enc (x_646 : Str)), .own (.l ((s_639.1 : List Str).map enc))]) (s0 := (([] : List Str), ())) C trivial (es_list (tv_av (tv_call C.toDx F_in_order (by decide) rfl (ea_cons (tv_any (tv_var (i := 0) C.toDx rfl rfl rfl)) (ea_cons (tv_any (tv_call C.toDx F_columns_of (by decide) rfl (ea_cons (tv_any (tv_var (i := 5) C.toDx rfl rfl rfl)) (ea_nil (R := .top))))) (ea_nil (R := .top))))))) (Sub.same (Sub.same (Sub.same (Sub.same (Sub.same (Sub.same (Sub.same (Sub.same (Sub.same (Sub.same Sub.nil)))))))))) (fun s_639 => (tg_name (i := 8) C.toDx rfl rfl (.inl C.fn) (fun _ => rfl))) (fun x_646 s_639 => (hl_one (hs_if trivial (tb_cmp (cmp_eq C.toDx (by decide)) (fun _ _ _ h => nomatch h) (tv_inD (R := .av/-p-/) C.toDx (tv_call C.toDx F_part_of (by decide) rfl (ea_cons (tv_any (tv_var (i := 8) C.toDx rfl rfl rfl)) (ea_cons (tv_any (tv_var (i := 5) C.toDx rfl rfl rfl)) (ea_nil (R := .top))))) (tv_vD (i := 7) C.toDx rfl rfl rfl) rfl) (tv_cmp (R := .av/-p-/) (cmp_eq C.toDx (by decide)) (fun _ _ _ h => nomatch h) (tv_var (i := 3) C.toDx rfl rfl rfl) (tv_str (R := .av/-p-/)) rfl) rfl) (hl_app (i := 9) (xs := s_639.1) (M := fun (found_658 : (List Str)) => .ok (.nx (found_658, ()))) C.toDx trivial rfl rfl rfl (tv_var (i := 8) C.toDx rfl rfl rfl) (Γ' := fun (found_658 : (List Str)) => [.val (enc (r.1 : (List Str))), .val (enc (r.2.1 : Dt)), .val (enc (r.2.2.1 : (Dct Str (List Str)))), .val (enc (tp_616.a : Str)), .val (enc (tp_616.b : Str)), .val (enc (tp_616.c : (Int × Int))), .val (enc (tp_616.d : (Int × Int))), .own (.d (dk (s_637.1 : List (Str × Bool)))), .val (enc (x_646 : Str)), .own (.l ((found_658 : List Str).map enc))]) (fun _ => rfl) fun found_658 => (hl_end (Sub.same (Sub.same (Sub.same (Sub.same (Sub.same (Sub.same (Sub.same (Sub.same (Sub.any (Sub.same Sub.nil)))))))))))) (hl_end (Sub.same (Sub.same (Sub.same (Sub.same (Sub.same (Sub.same (Sub.same (Sub.same (Sub.any (Sub.same Sub.nil))))))))))))))) (fun s_661 => (hl_ret trivial (tv_ownF (i := 9) C.toDx rfl rfl rfl rfl rfl)))))))))))

/-! ### chosen_deck -/
abbrev N_chosen_deck : List Str := ["asking", "trays", "deck", "columns", "field", "found", "card", "work"]
abbrev P_chosen_deck : List Str := ["asking", "trays"]
abbrev sc_chosen_deck : Scope := defScope (top 30)
abbrev A_chosen_deck : Type := (Asking × ((Dct Str (List Str)) × Unit))
def t_chosen_deck : A_chosen_deck → List Dt := (tcons (α := Asking) (tcons (α := (Dct Str (List Str))) tnil))
def b_chosen_deck (r : A_chosen_deck) : Res (Fl Unit (List Str)) := ((((.ok r.2.1 : Res (Dct Str (List Str)))).bind fun a_667 => ((((.ok r.1 : Res Asking)).bind fun v_664 => .ok v_664.f_deck).bind fun a_665 => ((.ok () : Res Unit)).bind fun r_666 => .ok (a_665, r_666)).bind fun r_668 => .ok (a_667, r_668)).bind m_deck_in).bind fun xs_675 => (nox (lcR xs_675 (fun (x_669 : Str) => (((.ok x_669 : Res Str)).bind fun a_673 => ((((.ok r.1 : Res Asking)).bind fun v_670 => .ok v_670.f_picks).bind fun a_671 => ((.ok () : Res Unit)).bind fun r_672 => .ok (a_671, r_672)).bind fun r_674 => .ok (a_673, r_674)).bind m_is_picked) (fun (x_669 : Str) => (.ok x_669 : Res Str)))).bind fun deck_663 => ((((.ok deck_663 : Res (List Str))).bind fun a_682 => ((((.ok r.1 : Res Asking)).bind fun v_677 => .ok v_677.f_middle).bind fun a_680 => (((.ok r.2.1 : Res (Dct Str (List Str)))).bind fun a_678 => ((.ok () : Res Unit)).bind fun r_679 => .ok (a_678, r_679)).bind fun r_681 => .ok (a_680, r_681)).bind fun r_683 => .ok (a_682, r_683)).bind m_behind_middle).bind fun deck_676 => ((((.ok r.1 : Res Asking)).bind fun v_686 => .ok v_686.f_order).bind fun xs_692 => forR xs_692 ((([] : List Int), ()) : ((List Int) × Unit)) (fun (x_687 : (Int × Int)) (s_685 : ((List Int) × Unit)) => ((((.ok x_687 : Res (Int × Int))).bind fun a_689 => ((.ok () : Res Unit)).bind fun r_690 => .ok (a_689, r_690)).bind m_columns_of).bind fun a_691 => chk (s_685.1.length + a_691.length ≤ SZ) ((fun (columns_688 : (List Int)) => .ok (.nx (columns_688, ()))) (s_685.1 ++ a_691))) : Res (Fl ((List Int) × Unit) (List Str))).bind fun f => f.goL (fun s_693 => (((((.ok deck_676 : Res (List Str))).bind fun a_698 => (((.ok s_693.1 : Res (List Int))).bind fun a_696 => ((.ok () : Res Unit)).bind fun r_697 => .ok (a_696, r_697)).bind fun r_699 => .ok (a_698, r_699)).bind m_in_order).bind fun xs_714 => forR xs_714 ((([] : List Str), ()) : ((List Str) × Unit)) (fun (x_700 : Str) (s_695 : ((List Str) × Unit)) => ((((.ok r.1 : Res Asking)).bind fun v_703 => .ok v_703.f_works).bind fun xs_710 => forR xs_710 ((x_700, ()) : (Str × Unit)) (fun (x_704 : (T4 (Int × Int) (Int × Int) Str (Int × Int))) (s_702 : (Str × Unit)) => ((((.ok s_702.1 : Res Str)).bind fun a_708 => (((.ok x_704 : Res (T4 (Int × Int) (Int × Int) Str (Int × Int)))).bind fun a_706 => ((.ok () : Res Unit)).bind fun r_707 => .ok (a_706, r_707)).bind fun r_709 => .ok (a_708, r_709)).bind m_work_card).bind fun card_705 => .ok (.nx (card_705, ()))) : Res (Fl (Str × Unit) (List Str))).bind fun f => f.goL (fun s_711 => ((.ok s_711.1 : Res Str)).bind fun a_713 => chk (s_695.1.length < SZ) ((fun (found_712 : (List Str)) => .ok (.nx (found_712, ()))) (s_695.1 ++ [a_713])))) : Res (Fl ((List Str) × Unit) (List Str))).bind fun f => f.goL (fun s_715 => (.ok s_715.1 : Res (List Str)).bind fun r_716 => .ok (.rt r_716)))
def m_chosen_deck (r : A_chosen_deck) : Res (List Str) := (b_chosen_deck r).bind (Fl.fin fun _ => .err)
theorem h_chosen_deck {G : Gv} {X : Cx} {W : WX} (B : Bn G X.K X.mg) (C : Dd G X W N_chosen_deck sc_chosen_deck 6) (F_deck_in : Fx G X false "deck_in" (Rt t_deck_in m_deck_in) [] 1) (F_is_picked : Fx G X false "is_picked" (Rt t_is_picked m_is_picked) [] 2) (F_behind_middle : Fx G X true "behind_middle" (Rt t_behind_middle m_behind_middle) [] 6) (F_columns_of : Fx G X false "columns_of" (Rt t_columns_of m_columns_of) [] 1) (F_in_order : Fx G X false "in_order" (Rt t_in_order m_in_order) [] 5) (F_work_card : Fx G X false "work_card" (Rt t_work_card m_work_card) [] 3) (r : A_chosen_deck) : HL G X W none false (entryΓ 8 (t_chosen_deck r)) (defBody (top 30)) (fun _ : Unit => [.any, .any, .any, .any, .any, .any, .any, .any]) (b_chosen_deck r) :=
  by
  have z : entryΓ 8 (t_chosen_deck r) = [.val (enc (r.1 : Asking)), .val (enc (r.2.1 : (Dct Str (List Str)))), .any, .any, .any, .any, .any, .any] := rfl
  rw [z]
  unfold b_chosen_deck
  exact (hl_setLc (i := 2) C trivial rfl rfl (es_list (tv_av (tv_call C.toDx F_deck_in (by decide) rfl (ea_cons (tv_any (tv_var (i := 1) C.toDx rfl rfl rfl)) (ea_cons (tv_any (tv_attr C.toDx (tv_var (i := 0) C.toDx rfl rfl rfl) (fun x : Asking => x.f_deck) (fun _ => ⟨_, rfl, rfl⟩) B.cls_Asking B.no_Asking_deck)) (ea_nil (R := .top))))))) (⟨⟨rfl, by decide +kernel, by decide +kernel, by decide +kernel, by decide +kernel⟩, by decide, fun s_b H_b D_b cl_b fp_b C_b => ⟨(tg_name (i := 6) C_b rfl rfl (.inr rfl) (fun _ => rfl)), fun x_669 => (eif_one (tb_val (tv_call C_b F_is_picked (by decide) rfl (ea_cons (tv_any (tv_var (i := 6) C_b rfl rfl rfl)) (ea_cons (tv_any (tv_attr C_b (tv_var (i := 0) C_b rfl rfl rfl) (fun x : Asking => x.f_picks) (fun _ => ⟨_, rfl, rfl⟩) B.cls_Asking B.no_Asking_picks)) (ea_nil (R := .top))))))), fun x_669 => (tv_var (i := 6) C_b rfl rfl rfl)⟩⟩ : Blk G X N_chosen_deck 6 sc_chosen_deck _ _ _ _ _ _ [("card", 6)] _ (α := Str) (β := Str) (fun (x_669 : Str) => [.val (enc (r.1 : Asking)), .val (enc (r.2.1 : (Dct Str (List Str)))), .any, .any, .any, .any, .val (enc (x_669 : Str)), .any]) (fun (x_669 : Str) => (((.ok x_669 : Res Str)).bind fun a_673 => ((((.ok r.1 : Res Asking)).bind fun v_670 => .ok v_670.f_picks).bind fun a_671 => ((.ok () : Res Unit)).bind fun r_672 => .ok (a_671, r_672)).bind fun r_674 => .ok (a_673, r_674)).bind m_is_picked) (fun (x_669 : Str) => (.ok x_669 : Res Str))) nod_flat (Γ' := fun (deck_663 : (List Str)) => [.val (enc (r.1 : Asking)), .val (enc (r.2.1 : (Dct Str (List Str)))), .val (enc (deck_663 : (List Str))), .any, .any, .any, .any, .any]) (fun _ => rfl) (fun deck_663 => (hl_set (i := 2) C trivial rfl rfl (tv_callA C.toDx F_behind_middle (by decide) rfl (ea_cons (tv_var (i := 2) C.toDx rfl rfl rfl) (ea_cons (tv_attr C.toDx (tv_var (i := 0) C.toDx rfl rfl rfl) (fun x : Asking => x.f_middle) (fun _ => ⟨_, rfl, rfl⟩) B.cls_Asking B.no_Asking_middle) (ea_cons (tv_var (i := 1) C.toDx rfl rfl rfl) (ea_nil (R := .av)))))) (Γ' := fun (deck_676 : (List Str)) => [.val (enc (r.1 : Asking)), .val (enc (r.2.1 : (Dct Str (List Str)))), .val (enc (deck_676 : (List Str))), .any, .any, .any, .any, .any]) (fun _ => rfl) fun deck_676 => (hl_nilL (i := 3) C rfl rfl (by decide) (Nat.le_of_ble_eq_true rfl) (Γ' := [.val (enc (r.1 : Asking)), .val (enc (r.2.1 : (Dct Str (List Str)))), .val (enc (deck_676 : (List Str))), .own (.l ((([] : List Int) : List Int).map enc)), .any, .any, .any, .any]) rfl (hl_consL (G1 := (fun (s_684 : ((List Int) × Unit)) => [.val (enc (r.1 : Asking)), .val (enc (r.2.1 : (Dct Str (List Str)))), .val (enc (deck_676 : (List Str))), .own (.l ((s_684.1 : List Int).map enc)), .any, .any, .any, .any])) (hs_for (Gs := (fun (s_684 : ((List Int) × Unit)) => [.val (enc (r.1 : Asking)), .val (enc (r.2.1 : (Dct Str (List Str)))), .val (enc (deck_676 : (List Str))), .own (.l ((s_684.1 : List Int).map enc)), .any, .any, .any, .any])) (Γ1 := fun (s_685 : ((List Int) × Unit)) (x_687 : (Int × Int)) => [.val (enc (r.1 : Asking)), .val (enc (r.2.1 : (Dct Str (List Str)))), .val (enc (deck_676 : (List Str))), .own (.l ((s_685.1 : List Int).map enc)), .val (enc (x_687 : (Int × Int))), .any, .any, .any]) (s0 := (([] : List Int), ())) C trivial (es_list (tv_attr C.toDx (tv_var (i := 0) C.toDx rfl rfl rfl) (fun x : Asking => x.f_order) (fun _ => ⟨_, rfl, rfl⟩) B.cls_Asking B.no_Asking_order)) (Sub.same (Sub.same (Sub.same (Sub.same (Sub.same (Sub.same (Sub.same (Sub.same Sub.nil)))))))) (fun s_685 => (tg_name (i := 4) C.toDx rfl rfl (.inl C.fn) (fun _ => rfl))) (fun x_687 s_685 => (hl_ext (i := 3) (xs := s_685.1) (M := fun (columns_688 : (List Int)) => .ok (.nx (columns_688, ()))) C.toDx trivial rfl rfl rfl (tv_call C.toDx F_columns_of (by decide) rfl (ea_cons (tv_any (tv_var (i := 4) C.toDx rfl rfl rfl)) (ea_nil (R := .top)))) (Γ' := fun (columns_688 : (List Int)) => [.val (enc (r.1 : Asking)), .val (enc (r.2.1 : (Dct Str (List Str)))), .val (enc (deck_676 : (List Str))), .own (.l ((columns_688 : List Int).map enc)), .val (enc (x_687 : (Int × Int))), .any, .any, .any]) (fun _ => rfl) fun columns_688 => (hl_end (Sub.same (Sub.same (Sub.same (Sub.same (Sub.any (Sub.same (Sub.same (Sub.same Sub.nil)))))))))))) (fun s_693 => (hl_nilL (i := 5) C rfl rfl (by decide) (Nat.le_of_ble_eq_true rfl) (Γ' := [.val (enc (r.1 : Asking)), .val (enc (r.2.1 : (Dct Str (List Str)))), .val (enc (deck_676 : (List Str))), .own (.l ((s_693.1 : List Int).map enc)), .any, .own (.l ((([] : List Str) : List Str).map enc)), .any, .any]) rfl (hl_consL (G1 := (fun (s_694 : ((List Str) × Unit)) => [.val (enc (r.1 : Asking)), .val (enc (r.2.1 : (Dct Str (List Str)))), .val (enc (deck_676 : (List Str))), .own (.l ((s_693.1 : List Int).map enc)), .any, .own (.l ((s_694.1 : List Str).map enc)), .any, .any])) (hs_for (Gs := (fun (s_694 : ((List Str) × Unit)) => [.val (enc (r.1 : Asking)), .val (enc (r.2.1 : (Dct Str (List Str)))), .val (enc (deck_676 : (List Str))), .own (.l ((s_693.1 : List Int).map enc)), .any, .own (.l ((s_694.1 : List Str).map enc)), .any, .any])) (Γ1 := fun (s_695 : ((List Str) × Unit)) (x_700 : Str) => [.val (enc (r.1 : Asking)), .val (enc (r.2.1 : (Dct Str (List Str)))), .val (enc (deck_676 : (List Str))), .own (.l ((s_693.1 : List Int).map enc)), .any, .own (.l ((s_695.1 : List Str).map enc)), .val (enc (x_700 : Str)), .any]) (s0 := (([] : List Str), ())) C trivial (es_list (tv_av (tv_call C.toDx F_in_order (by decide) rfl (ea_cons (tv_any (tv_var (i := 2) C.toDx rfl rfl rfl)) (ea_cons (tv_vO (i := 3) C.toDx rfl rfl rfl) (ea_nil (R := .top))))))) (Sub.same (Sub.same (Sub.same (Sub.same (Sub.same (Sub.same (Sub.same (Sub.same Sub.nil)))))))) (fun s_695 => (tg_name (i := 6) C.toDx rfl rfl (.inl C.fn) (fun _ => rfl))) (fun x_700 s_695 => (hl_consL (G1 := (fun (s_701 : (Str × Unit)) => [.val (enc (r.1 : Asking)), .val (enc (r.2.1 : (Dct Str (List Str)))), .val (enc (deck_676 : (List Str))), .own (.l ((s_693.1 : List Int).map enc)), .any, .own (.l ((s_695.1 : List Str).map enc)), .val (enc (s_701.1 : Str)), .any])) (hs_for (Gs := (fun (s_701 : (Str × Unit)) => [.val (enc (r.1 : Asking)), .val (enc (r.2.1 : (Dct Str (List Str)))), .val (enc (deck_676 : (List Str))), .own (.l ((s_693.1 : List Int).map enc)), .any, .own (.l ((s_695.1 : List Str).map enc)), .val (enc (s_701.1 : Str)), .any])) (Γ1 := fun (s_702 : (Str × Unit)) (x_704 : (T4 (Int × Int) (Int × Int) Str (Int × Int))) => [.val (enc (r.1 : Asking)), .val (enc (r.2.1 : (Dct Str (List Str)))), .val (enc (deck_676 : (List Str))), .own (.l ((s_693.1 : List Int).map enc)), .any, .own (.l ((s_695.1 : List Str).map enc)), .val (enc (s_702.1 : Str)), .val (enc (x_704 : (T4 (Int × Int) (Int × Int) Str (Int × Int))))]) (s0 := (x_700, ())) C trivial (es_list (tv_attr C.toDx (tv_var (i := 0) C.toDx rfl rfl rfl) (fun x : Asking => x.f_works) (fun _ => ⟨_, rfl, rfl⟩) B.cls_Asking B.no_Asking_works)) (Sub.same (Sub.same (Sub.same (Sub.same (Sub.same (Sub.same (Sub.same (Sub.same Sub.nil)))))))) (fun s_702 => (tg_name (i := 7) C.toDx rfl rfl (.inl C.fn) (fun _ => rfl))) (fun x_704 s_702 => (hl_set (i := 6) C trivial rfl rfl (tv_flat (R := .av) (tv_call C.toDx F_work_card (by decide) rfl (ea_cons (tv_any (tv_var (i := 6) C.toDx rfl rfl rfl)) (ea_cons (tv_any (tv_var (i := 7) C.toDx rfl rfl rfl)) (ea_nil (R := .top)))))) (Γ' := fun (card_705 : Str) => [.val (enc (r.1 : Asking)), .val (enc (r.2.1 : (Dct Str (List Str)))), .val (enc (deck_676 : (List Str))), .own (.l ((s_693.1 : List Int).map enc)), .any, .own (.l ((s_695.1 : List Str).map enc)), .val (enc (card_705 : Str)), .val (enc (x_704 : (T4 (Int × Int) (Int × Int) Str (Int × Int))))]) (fun _ => rfl) fun card_705 => (hl_end (Sub.same (Sub.same (Sub.same (Sub.same (Sub.same (Sub.same (Sub.same (Sub.any Sub.nil)))))))))))) (fun s_711 => (hl_app (i := 5) (xs := s_695.1) (M := fun (found_712 : (List Str)) => .ok (.nx (found_712, ()))) C.toDx trivial rfl rfl rfl (tv_var (i := 6) C.toDx rfl rfl rfl) (Γ' := fun (found_712 : (List Str)) => [.val (enc (r.1 : Asking)), .val (enc (r.2.1 : (Dct Str (List Str)))), .val (enc (deck_676 : (List Str))), .own (.l ((s_693.1 : List Int).map enc)), .any, .own (.l ((found_712 : List Str).map enc)), .val (enc (s_711.1 : Str)), .any]) (fun _ => rfl) fun found_712 => (hl_end (Sub.same (Sub.same (Sub.same (Sub.same (Sub.same (Sub.same (Sub.any (Sub.same Sub.nil)))))))))))))) (fun s_715 => (hl_ret trivial (tv_ownF (i := 5) C.toDx rfl rfl rfl rfl rfl)))))))))) rfl rfl (by decide +kernel))

/-! ### _law_cell -/
abbrev N__law_cell : List Str := ["_law_script", "_law_k", "_law_number_here"]
abbrev P__law_cell : List Str := ["_law_script", "_law_k"]
abbrev sc__law_cell : Scope := defScope (top 43)
abbrev A__law_cell : Type := (Scr × (Int × Unit))
def t__law_cell : A__law_cell → List Dt := (tcons (α := Scr) (tcons (α := Int) tnil))
def b__law_cell (r : A__law_cell) : Res (Fl Unit Int) := (((.ok r.2.1 : Res Int)).bind fun v_718 => (((.ok r.1 : Res Scr)).bind fun v_717 => .ok (v_717.ns.length : Int)).bind fun v_719 => .ok (decide (v_718 < v_719))).bind fun z_720 => if z_720 = true then ((((.ok r.1 : Res Scr)).bind fun v_721 => ((.ok r.2.1 : Res Int)).bind fun v_722 => getI v_721.ns v_722).bind fun r_723 => .ok (.rt r_723) : Res (Fl Unit Int)).bind Fl.cut else ((((.ok r.2.1 : Res Int)).bind fun v_725 => ((.ok 7919 : Res Int)).bind fun v_726 => mulR v_725 v_726).bind fun v_727 => ((.ok 5 : Res Int)).bind fun v_728 => .ok (v_727 + v_728)).bind fun number_here_724 => (((((.ok r.1 : Res Scr)).bind fun v_729 => .ok (v_729.ns.length : Int)).bind fun v_730 => ((.ok 0 : Res Int)).bind fun v_731 => .ok (decide (v_731 < v_730))).bind fun z_732 => if z_732 = true then ((((((.ok r.1 : Res Scr)).bind fun v_756 => ((((.ok r.2.1 : Res Int)).bind fun v_751 => ((.ok 7 : Res Int)).bind fun v_752 => mulR v_751 v_752).bind fun v_754 => (((.ok r.1 : Res Scr)).bind fun v_753 => .ok (v_753.ns.length : Int)).bind fun v_755 => modR v_754 v_755).bind fun v_757 => getI v_756.ns v_757).bind fun v_758 => ((.ok 48271 : Res Int)).bind fun v_759 => mulR v_758 v_759).bind fun v_762 => (((.ok r.2.1 : Res Int)).bind fun v_760 => ((.ok 7919 : Res Int)).bind fun v_761 => mulR v_760 v_761).bind fun v_763 => .ok (v_762 + v_763)).bind fun v_764 => ((.ok 2147483647 : Res Int)).bind fun v_765 => modR v_764 v_765).bind fun number_here_750 => .ok (.nx (number_here_750, ())) else .ok (.nx (number_here_724, ())) : Res (Fl (Int × Unit) Int)).bind fun f => f.goL (fun s_766 => ((((.ok s_766.1 : Res Int)).bind fun v_767 => ((.ok s_766.1 : Res Int)).bind fun v_768 => mulR v_767 v_768).bind fun v_769 => ((.ok 2147483629 : Res Int)).bind fun v_770 => modR v_769 v_770).bind fun r_771 => .ok (.rt r_771))
def m__law_cell (r : A__law_cell) : Res Int := (b__law_cell r).bind (Fl.fin fun _ => .err)
theorem h__law_cell {G : Gv} {X : Cx} {W : WX} (B : Bn G X.K X.mg) (C : Dd G X W N__law_cell sc__law_cell 0) (r : A__law_cell) : HL G X W none false (entryΓ 3 (t__law_cell r)) (defBody (top 43)) (fun _ : Unit => [.any, .any, .any]) (b__law_cell r) :=
  by
  have z : entryΓ 3 (t__law_cell r) = [.val (enc (r.1 : Scr)), .val (enc (r.2.1 : Int)), .any] := rfl
  rw [z]
  unfold b__law_cell
  exact (hl_guardC trivial (tb_cmp cmp_lt (fun _ _ _ h => nomatch h) (tv_var (i := 1) C.toDx rfl rfl rfl) (tv_b1 (R := .av/-p-/) C.toDx (b_lenScr C.toDx) (fun _ _ h => nomatch h) (tv_var (i := 0) C.toDx rfl rfl rfl) rfl B.n_len (by decide +kernel)) rfl) (hl_ret trivial (tv_ixScr (R := .fr/-p-/) C.toDx (tv_var (i := 0) C.toDx rfl rfl rfl) (tv_var (i := 1) C.toDx rfl rfl rfl))) (hl_set (i := 2) C trivial rfl rfl (tv_add (R := .av/-p-/) (tv_mul (R := .av/-p-/) (tv_var (i := 1) C.toDx rfl rfl rfl) (tv_int (R := .av/-p-/))) (tv_int (R := .av/-p-/))) (Γ' := fun (number_here_724 : Int) => [.val (enc (r.1 : Scr)), .val (enc (r.2.1 : Int)), .val (enc (number_here_724 : Int))]) (fun _ => rfl) fun number_here_724 => (hl_consL (G1 := (fun (s_749 : (Int × Unit)) => [.val (enc (r.1 : Scr)), .val (enc (r.2.1 : Int)), .val (enc (s_749.1 : Int))])) (hs_if trivial (tb_cmp cmp_gt (fun _ _ _ h => nomatch h) (tv_b1 (R := .av/-p-/) C.toDx (b_lenScr C.toDx) (fun _ _ h => nomatch h) (tv_var (i := 0) C.toDx rfl rfl rfl) rfl B.n_len (by decide +kernel)) (tv_int (R := .av/-p-/)) rfl) (hl_set (i := 2) C trivial rfl rfl (tv_mod (R := .av/-p-/) (tv_add (R := .av/-p-/) (tv_mul (R := .av/-p-/) (tv_ixScr (R := .av/-p-/) C.toDx (tv_var (i := 0) C.toDx rfl rfl rfl) (tv_mod (R := .av/-p-/) (tv_mul (R := .av/-p-/) (tv_var (i := 1) C.toDx rfl rfl rfl) (tv_int (R := .av/-p-/))) (tv_b1 (R := .av/-p-/) C.toDx (b_lenScr C.toDx) (fun _ _ h => nomatch h) (tv_var (i := 0) C.toDx rfl rfl rfl) rfl B.n_len (by decide +kernel)))) (tv_int (R := .av/-p-/))) (tv_mul (R := .av/-p-/) (tv_var (i := 1) C.toDx rfl rfl rfl) (tv_int (R := .av/-p-/)))) (tv_int (R := .av/-p-/))) (Γ' := fun (number_here_750 : Int) => [.val (enc (r.1 : Scr)), .val (enc (r.2.1 : Int)), .val (enc (number_here_750 : Int))]) (fun _ => rfl) fun number_here_750 => (hl_end (Sub.same (Sub.same (Sub.same Sub.nil))))) (hl_end (Sub.same (Sub.same (Sub.same Sub.nil))))) (fun s_766 => (hl_ret trivial (tv_mod (R := .fr/-p-/) (tv_mul (R := .fr/-p-/) (tv_var (i := 2) C.toDx rfl rfl rfl) (tv_var (i := 2) C.toDx rfl rfl rfl)) (tv_int (R := .fr/-p-/))))))))

/-! ### _law_card -/
abbrev N__law_card : List Str := ["_law_cell_here", "_law_k", "_law_text", "_law_at"]
abbrev P__law_card : List Str := ["_law_cell_here", "_law_k"]
abbrev sc__law_card : Scope := defScope (top 44)
abbrev A__law_card : Type := (Int × (Int × Unit))
def t__law_card : A__law_card → List Dt := (tcons (α := Int) (tcons (α := Int) tnil))
def b__law_card (r : A__law_card) : Res (Fl Unit Str) := (((((.ok r.1 : Res Int)).bind fun v_775 => (((.ok 10 : Res Int)).bind fun v_773 => ((.ok 36 : Res Int)).bind fun v_774 => powR v_773 v_774).bind fun v_776 => modR v_775 v_776).bind fun v_777 => strI v_777).bind fun v_778 => ((.ok 36 : Res Int)).bind fun v_779 => padR Txt.zfill v_778 v_779).bind fun text_772 => ((((.ok r.1 : Res Int)).bind fun v_781 => ((.ok 4 : Res Int)).bind fun v_782 => divR v_781 v_782).bind fun v_783 => ((.ok 36 : Res Int)).bind fun v_784 => modR v_783 v_784).bind fun at_780 => (((((.ok r.1 : Res Int)).bind fun v_785 => ((.ok 4 : Res Int)).bind fun v_786 => modR v_785 v_786).bind fun v_787 => ((.ok 0 : Res Int)).bind fun v_788 => .ok (decide (v_788 < v_787))).bind fun z_789 => if z_789 = true then (((((.ok text_772 : Res Str)).bind fun v_814 => ((.ok none : Res (Option Int))).bind fun v_815 => (((.ok at_780 : Res Int)).bind fun v_813 => .ok (some v_813)).bind fun v_816 => cutR v_814 v_815 v_816).bind fun v_823 => (((.ok " ZA" : Res Str)).bind fun v_821 => ((((.ok r.1 : Res Int)).bind fun v_817 => ((.ok 4 : Res Int)).bind fun v_818 => modR v_817 v_818).bind fun v_819 => ((.ok 1 : Res Int)).bind fun v_820 => .ok (v_819 - v_820)).bind fun v_822 => getS v_821 v_822).bind fun v_824 => catS v_823 v_824).bind fun v_831 => (((.ok text_772 : Res Str)).bind fun v_828 => ((((.ok at_780 : Res Int)).bind fun v_825 => ((.ok 1 : Res Int)).bind fun v_826 => .ok (v_825 + v_826)).bind fun v_827 => .ok (some v_827)).bind fun v_829 => ((.ok none : Res (Option Int))).bind fun v_830 => cutR v_828 v_829 v_830).bind fun v_832 => catS v_831 v_832).bind fun text_812 => .ok (.nx (text_812, ())) else .ok (.nx (text_772, ())) : Res (Fl (Str × Unit) Str)).bind fun f => f.goL (fun s_833 => (((.ok s_833.1 : Res Str)).bind fun v_837 => ((((.ok r.2.1 : Res Int)).bind fun v_834 => strI v_834).bind fun v_835 => ((.ok 4 : Res Int)).bind fun v_836 => padR Txt.zfill v_835 v_836).bind fun v_838 => catS v_837 v_838).bind fun r_839 => .ok (.rt r_839))
def m__law_card (r : A__law_card) : Res Str := (b__law_card r).bind (Fl.fin fun _ => .err)
theorem h__law_card {G : Gv} {X : Cx} {W : WX} (B : Bn G X.K X.mg) (C : Dd G X W N__law_card sc__law_card 0) (r : A__law_card) : HL G X W none false (entryΓ 4 (t__law_card r)) (defBody (top 44)) (fun _ : Unit => [.any, .any, .any, .any]) (b__law_card r) :=
  by
  have z : entryΓ 4 (t__law_card r) = [.val (enc (r.1 : Int)), .val (enc (r.2.1 : Int)), .any, .any] := rfl
  rw [z]
  unfold b__law_card
  exact (hl_set (i := 2) C trivial rfl rfl (tv_m1 (R := .av/-p-/) C.toDx m_zfill calm_okIf (tv_t1 (R := .av/-p-/) C.toDx b_str calm_okIf1 (tv_mod (R := .av/-p-/) (tv_var (i := 0) C.toDx rfl rfl rfl) (tv_pow (R := .av/-p-/) (tv_int (R := .av/-p-/)) (tv_int (R := .av/-p-/)))) rfl B.n_str (by decide +kernel)) (tv_int (R := .av/-p-/)) F.plainAttrs_str F.slot_str_zfill F.type_str_zfill) (Γ' := fun (text_772 : Str) => [.val (enc (r.1 : Int)), .val (enc (r.2.1 : Int)), .val (enc (text_772 : Str)), .any]) (fun _ => rfl) fun text_772 => (hl_set (i := 3) C trivial rfl rfl (tv_mod (R := .av/-p-/) (tv_div (R := .av/-p-/) (tv_var (i := 0) C.toDx rfl rfl rfl) (tv_int (R := .av/-p-/))) (tv_int (R := .av/-p-/))) (Γ' := fun (at_780 : Int) => [.val (enc (r.1 : Int)), .val (enc (r.2.1 : Int)), .val (enc (text_772 : Str)), .val (enc (at_780 : Int))]) (fun _ => rfl) fun at_780 => (hl_consL (G1 := (fun (s_811 : (Str × Unit)) => [.val (enc (r.1 : Int)), .val (enc (r.2.1 : Int)), .val (enc (s_811.1 : Str)), .val (enc (at_780 : Int))])) (hs_if trivial (tb_cmp cmp_gt (fun _ _ _ h => nomatch h) (tv_mod (R := .av/-p-/) (tv_var (i := 0) C.toDx rfl rfl rfl) (tv_int (R := .av/-p-/))) (tv_int (R := .av/-p-/)) rfl) (hl_set (i := 2) C trivial rfl rfl (tv_catS (R := .av/-p-/) (tv_catS (R := .av/-p-/) (tv_slS (R := .av/-p-/) (tv_var (i := 2) C.toDx rfl rfl rfl) eo_none (eo_some (tv_var (i := 3) C.toDx rfl rfl rfl))) (tv_ixS (R := .av/-p-/) (tv_str (R := .av/-p-/)) (tv_sub (R := .av/-p-/) (tv_mod (R := .av/-p-/) (tv_var (i := 0) C.toDx rfl rfl rfl) (tv_int (R := .av/-p-/))) (tv_int (R := .av/-p-/))))) (tv_slS (R := .av/-p-/) (tv_var (i := 2) C.toDx rfl rfl rfl) (eo_some (tv_add (R := .av/-p-/) (tv_var (i := 3) C.toDx rfl rfl rfl) (tv_int (R := .av/-p-/)))) eo_none)) (Γ' := fun (text_812 : Str) => [.val (enc (r.1 : Int)), .val (enc (r.2.1 : Int)), .val (enc (text_812 : Str)), .val (enc (at_780 : Int))]) (fun _ => rfl) fun text_812 => (hl_end (Sub.same (Sub.same (Sub.same (Sub.same Sub.nil)))))) (hl_end (Sub.same (Sub.same (Sub.same (Sub.same Sub.nil)))))) (fun s_833 => (hl_ret trivial (tv_catS (R := .fr/-p-/) (tv_var (i := 2) C.toDx rfl rfl rfl) (tv_m1 (R := .fr/-p-/) C.toDx m_zfill calm_okIf (tv_t1 (R := .fr/-p-/) C.toDx b_str calm_okIf1 (tv_var (i := 1) C.toDx rfl rfl rfl) rfl B.n_str (by decide +kernel)) (tv_int (R := .fr/-p-/)) F.plainAttrs_str F.slot_str_zfill F.type_str_zfill)))))))

/-! ### _law_within -/
abbrev N__law_within : List Str := ["_law_cell_here", "_law_low", "_law_many", "_law_first"]
abbrev P__law_within : List Str := ["_law_cell_here", "_law_low", "_law_many"]
abbrev sc__law_within : Scope := defScope (top 45)
abbrev A__law_within : Type := (Int × (Int × (Int × Unit)))
def t__law_within : A__law_within → List Dt := (tcons (α := Int) (tcons (α := Int) (tcons (α := Int) tnil)))
def b__law_within (r : A__law_within) : Res (Fl Unit (Int × Int)) := (((.ok r.2.1 : Res Int)).bind fun v_843 => (((.ok r.1 : Res Int)).bind fun v_841 => ((.ok r.2.2.1 : Res Int)).bind fun v_842 => modR v_841 v_842).bind fun v_844 => .ok (v_843 + v_844)).bind fun first_840 => ((((.ok first_840 : Res Int)).bind fun a_857 => ((((.ok first_840 : Res Int)).bind fun v_853 => ((((.ok r.1 : Res Int)).bind fun v_845 => ((.ok r.2.2.1 : Res Int)).bind fun v_846 => divR v_845 v_846).bind fun v_851 => ((((.ok r.2.1 : Res Int)).bind fun v_847 => ((.ok r.2.2.1 : Res Int)).bind fun v_848 => .ok (v_847 + v_848)).bind fun v_849 => ((.ok first_840 : Res Int)).bind fun v_850 => .ok (v_849 - v_850)).bind fun v_852 => modR v_851 v_852).bind fun v_854 => .ok (v_853 + v_854)).bind fun a_855 => ((.ok () : Res Unit)).bind fun r_856 => .ok (a_855, r_856)).bind fun r_858 => .ok (a_857, r_858)).bind fun r => .ok ((r.1, r.2.1) : (Int × Int))).bind fun r_859 => .ok (.rt r_859)
def m__law_within (r : A__law_within) : Res (Int × Int) := (b__law_within r).bind (Fl.fin fun _ => .err)
theorem h__law_within {G : Gv} {X : Cx} {W : WX} (B : Bn G X.K X.mg) (C : Dd G X W N__law_within sc__law_within 0) (r : A__law_within) : HL G X W none false (entryΓ 4 (t__law_within r)) (defBody (top 45)) (fun _ : Unit => [.any, .any, .any, .any]) (b__law_within r) :=
  by
  have z : entryΓ 4 (t__law_within r) = [.val (enc (r.1 : Int)), .val (enc (r.2.1 : Int)), .val (enc (r.2.2.1 : Int)), .any] := rfl
  rw [z]
  unfold b__law_within
  exact (hl_set (i := 3) C trivial rfl rfl (tv_add (R := .av/-p-/) (tv_var (i := 1) C.toDx rfl rfl rfl) (tv_mod (R := .av/-p-/) (tv_var (i := 0) C.toDx rfl rfl rfl) (tv_var (i := 2) C.toDx rfl rfl rfl))) (Γ' := fun (first_840 : Int) => [.val (enc (r.1 : Int)), .val (enc (r.2.1 : Int)), .val (enc (r.2.2.1 : Int)), .val (enc (first_840 : Int))]) (fun _ => rfl) fun first_840 => (hl_ret trivial (tv_tup (ea_cons (tv_flat (R := .fr/-p-/) (tv_var (i := 3) C.toDx rfl rfl rfl)) (ea_cons (tv_add (R := .fr/-p-/) (tv_var (i := 3) C.toDx rfl rfl rfl) (tv_mod (R := .fr/-p-/) (tv_div (R := .fr/-p-/) (tv_var (i := 0) C.toDx rfl rfl rfl) (tv_var (i := 2) C.toDx rfl rfl rfl)) (tv_sub (R := .fr/-p-/) (tv_add (R := .fr/-p-/) (tv_var (i := 1) C.toDx rfl rfl rfl) (tv_var (i := 2) C.toDx rfl rfl rfl)) (tv_var (i := 3) C.toDx rfl rfl rfl)))) (ea_nil (R := .fr/-p-/)))) (fun r => ((r.1, r.2.1) : (Int × Int))) (fun _ => rfl) (by decide) (fun _ => rfl))))

/-! ### _law_number -/
abbrev N__law_number : List Str := ["_law_card_here", "_law_field", "_law_total", "_law_sign"]
abbrev P__law_number : List Str := ["_law_card_here", "_law_field"]
abbrev sc__law_number : Scope := defScope (top 46)
abbrev A__law_number : Type := (Str × ((Int × Int) × Unit))
def t__law_number : A__law_number → List Dt := (tcons (α := Str) (tcons (α := (Int × Int)) tnil))
def b__law_number (r : A__law_number) : Res (Fl Unit Int) := ((.ok 0 : Res Int)).bind fun total_860 => (((((.ok r.1 : Res Str)).bind fun v_869 => (((((.ok r.2.1 : Res (Int × Int))).bind fun v_863 => .ok v_863.1).bind fun v_864 => ((.ok 1 : Res Int)).bind fun v_865 => .ok (v_864 - v_865)).bind fun v_866 => .ok (some v_866)).bind fun v_870 => ((((.ok r.2.1 : Res (Int × Int))).bind fun v_867 => .ok v_867.2).bind fun v_868 => .ok (some v_868)).bind fun v_871 => cutR v_869 v_870 v_871).bind fun v_872 => .ok (sgn v_872)).bind fun xs_885 => forR xs_885 ((total_860, ()) : (Int × Unit)) (fun (x_873 : Str) (s_862 : (Int × Unit)) => (((.ok 10 : Res Int)).bind fun v_875 => ((.ok s_862.1 : Res Int)).bind fun v_876 => mulR v_875 v_876).bind fun total_874 => (((.ok x_873 : Res Str)).bind fun v_877 => ((.ok "0123456789" : Res Str)).bind fun v_878 => inS v_877 v_878).bind fun z_879 => if z_879 = true then (((.ok total_874 : Res Int)).bind fun v_883 => (((.ok "0123456789" : Res Str)).bind fun v_881 => ((.ok x_873 : Res Str)).bind fun v_882 => sindexR v_881 v_882).bind fun v_884 => .ok (v_883 + v_884)).bind fun total_880 => .ok (.nx (total_880, ())) else .ok (.nx (total_874, ()))) : Res (Fl (Int × Unit) Int)).bind fun f => f.goL (fun s_886 => ((.ok s_886.1 : Res Int)).bind fun r_887 => .ok (.rt r_887))
def m__law_number (r : A__law_number) : Res Int := (b__law_number r).bind (Fl.fin fun _ => .err)
theorem h__law_number {G : Gv} {X : Cx} {W : WX} (B : Bn G X.K X.mg) (C : Dd G X W N__law_number sc__law_number 0) (r : A__law_number) : HL G X W none false (entryΓ 4 (t__law_number r)) (defBody (top 46)) (fun _ : Unit => [.any, .any, .any, .any]) (b__law_number r) :=
  by
  have z : entryΓ 4 (t__law_number r) = [.val (enc (r.1 : Str)), .val (enc (r.2.1 : (Int × Int))), .any, .any] := rfl
  rw [z]
  unfold b__law_number
  exact (hl_set (i := 2) C trivial rfl rfl (tv_int (R := .av/-p-/)) (Γ' := fun (total_860 : Int) => [.val (enc (r.1 : Str)), .val (enc (r.2.1 : (Int × Int))), .val (enc (total_860 : Int)), .any]) (fun _ => rfl) fun total_860 => (hl_consL (G1 := (fun (s_861 : (Int × Unit)) => [.val (enc (r.1 : Str)), .val (enc (r.2.1 : (Int × Int))), .val (enc (s_861.1 : Int)), .any])) (hs_for (Gs := (fun (s_861 : (Int × Unit)) => [.val (enc (r.1 : Str)), .val (enc (r.2.1 : (Int × Int))), .val (enc (s_861.1 : Int)), .any])) (Γ1 := fun (s_862 : (Int × Unit)) (x_873 : Str) => [.val (enc (r.1 : Str)), .val (enc (r.2.1 : (Int × Int))), .val (enc (s_862.1 : Int)), .val (enc (x_873 : Str))]) (s0 := (total_860, ())) C trivial (es_str (tv_slS (R := .av/-p-/) (tv_var (i := 0) C.toDx rfl rfl rfl) (eo_some (tv_sub (R := .av/-p-/) (tv_ixT C.toDx (tv_var (i := 1) C.toDx rfl rfl rfl) (fun x : (Int × Int) => x.1) (fun _ => ⟨_, rfl, rfl⟩)) (tv_int (R := .av/-p-/)))) (eo_some (tv_ixT C.toDx (tv_var (i := 1) C.toDx rfl rfl rfl) (fun x : (Int × Int) => x.2) (fun _ => ⟨_, rfl, rfl⟩))))) (Sub.same (Sub.same (Sub.same (Sub.same Sub.nil)))) (fun s_862 => (tg_name (i := 3) C.toDx rfl rfl (.inl C.fn) (fun _ => rfl))) (fun x_873 s_862 => (hl_set (i := 2) C trivial rfl rfl (tv_mul (R := .av/-p-/) (tv_int (R := .av/-p-/)) (tv_var (i := 2) C.toDx rfl rfl rfl)) (Γ' := fun (total_874 : Int) => [.val (enc (r.1 : Str)), .val (enc (r.2.1 : (Int × Int))), .val (enc (total_874 : Int)), .val (enc (x_873 : Str))]) (fun _ => rfl) fun total_874 => (hl_one (hs_if trivial (tb_cmp cmp_inS calm_inS (tv_var (i := 3) C.toDx rfl rfl rfl) (tv_str (R := .av/-p-/)) rfl) (hl_set (i := 2) C trivial rfl rfl (tv_add (R := .av/-p-/) (tv_var (i := 2) C.toDx rfl rfl rfl) (tv_m1 (R := .av/-p-/) C.toDx m_sindex calm_sindex (tv_str (R := .av/-p-/)) (tv_var (i := 3) C.toDx rfl rfl rfl) F.plainAttrs_str F.slot_str_index F.type_str_index)) (Γ' := fun (total_880 : Int) => [.val (enc (r.1 : Str)), .val (enc (r.2.1 : (Int × Int))), .val (enc (total_880 : Int)), .val (enc (x_873 : Str))]) (fun _ => rfl) fun total_880 => (hl_end (Sub.same (Sub.same (Sub.same (Sub.any Sub.nil)))))) (hl_end (Sub.same (Sub.same (Sub.same (Sub.any Sub.nil)))))))))) (fun s_886 => (hl_ret trivial (tv_flat (R := .fr) (tv_var (i := 2) C.toDx rfl rfl rfl))))))

/-! ### _law_worked -/
abbrev N__law_worked : List Str := ["_law_card_here", "_law_work", "_law_to", "_law_one", "_law_word", "_law_other", "_law_value", "_law_text", "_law_k"]
abbrev P__law_worked : List Str := ["_law_card_here", "_law_work"]
abbrev sc__law_worked : Scope := defScope (top 47)
abbrev A__law_worked : Type := (Str × ((T4 (Int × Int) (Int × Int) Str (Int × Int)) × Unit))
def t__law_worked : A__law_worked → List Dt := (tcons (α := Str) (tcons (α := (T4 (Int × Int) (Int × Int) Str (Int × Int))) tnil))
def b__law_worked (r : A__law_worked) : Res (Fl Unit Str) := ((.ok r.2.1 : Res (T4 (Int × Int) (Int × Int) Str (Int × Int)))).bind fun tp_888 => (((((.ok r.1 : Res Str)).bind fun a_897 => (((.ok tp_888.b : Res (Int × Int))).bind fun a_895 => ((.ok () : Res Unit)).bind fun r_896 => .ok (a_895, r_896)).bind fun r_898 => .ok (a_897, r_898)).bind m__law_number).bind fun v_903 => ((((.ok r.1 : Res Str)).bind fun a_901 => (((.ok tp_888.d : Res (Int × Int))).bind fun a_899 => ((.ok () : Res Unit)).bind fun r_900 => .ok (a_899, r_900)).bind fun r_902 => .ok (a_901, r_902)).bind m__law_number).bind fun v_904 => .ok (v_903 + v_904)).bind fun value_894 => ((((.ok tp_888.c : Res Str)).bind fun v_905 => ((.ok "less" : Res Str)).bind fun v_906 => .ok (decide (v_905 = v_906))).bind fun z_907 => if z_907 = true then (((((.ok r.1 : Res Str)).bind fun a_923 => (((.ok tp_888.b : Res (Int × Int))).bind fun a_921 => ((.ok () : Res Unit)).bind fun r_922 => .ok (a_921, r_922)).bind fun r_924 => .ok (a_923, r_924)).bind m__law_number).bind fun v_929 => ((((.ok r.1 : Res Str)).bind fun a_927 => (((.ok tp_888.d : Res (Int × Int))).bind fun a_925 => ((.ok () : Res Unit)).bind fun r_926 => .ok (a_925, r_926)).bind fun r_928 => .ok (a_927, r_928)).bind m__law_number).bind fun v_930 => .ok (v_929 - v_930)).bind fun value_920 => .ok (.nx (value_920, ())) else .ok (.nx (value_894, ())) : Res (Fl (Int × Unit) Str)).bind fun f => f.goL (fun s_931 => ((((.ok tp_888.c : Res Str)).bind fun v_932 => ((.ok "times" : Res Str)).bind fun v_933 => .ok (decide (v_932 = v_933))).bind fun z_934 => if z_934 = true then (((((.ok r.1 : Res Str)).bind fun a_950 => (((.ok tp_888.b : Res (Int × Int))).bind fun a_948 => ((.ok () : Res Unit)).bind fun r_949 => .ok (a_948, r_949)).bind fun r_951 => .ok (a_950, r_951)).bind m__law_number).bind fun v_956 => ((((.ok r.1 : Res Str)).bind fun a_954 => (((.ok tp_888.d : Res (Int × Int))).bind fun a_952 => ((.ok () : Res Unit)).bind fun r_953 => .ok (a_952, r_953)).bind fun r_955 => .ok (a_954, r_955)).bind m__law_number).bind fun v_957 => mulR v_956 v_957).bind fun value_947 => .ok (.nx (value_947, ())) else .ok (.nx (s_931.1, ())) : Res (Fl (Int × Unit) Str)).bind fun f => f.goL (fun s_958 => ((.ok "" : Res Str)).bind fun text_959 => (((((((.ok tp_888.a : Res (Int × Int))).bind fun v_962 => .ok v_962.2).bind fun v_964 => (((.ok tp_888.a : Res (Int × Int))).bind fun v_963 => .ok v_963.1).bind fun v_965 => .ok (v_964 - v_965)).bind fun v_966 => ((.ok 1 : Res Int)).bind fun v_967 => .ok (v_966 + v_967)).bind fun v_968 => rngR 0 v_968).bind fun xs_980 => forR xs_980 ((text_959, (s_958.1, ())) : (Str × (Int × Unit))) (fun (x_969 : Int) (s_961 : (Str × (Int × Unit))) => ((((.ok "0123456789" : Res Str)).bind fun v_973 => (((.ok s_961.2.1 : Res Int)).bind fun v_971 => ((.ok 10 : Res Int)).bind fun v_972 => modR v_971 v_972).bind fun v_974 => getS v_973 v_974).bind fun v_975 => ((.ok s_961.1 : Res Str)).bind fun v_976 => catS v_975 v_976).bind fun text_970 => (((.ok s_961.2.1 : Res Int)).bind fun v_978 => ((.ok 10 : Res Int)).bind fun v_979 => divR v_978 v_979).bind fun value_977 => .ok (.nx (text_970, (value_977, ())))) : Res (Fl (Str × (Int × Unit)) Str)).bind fun f => f.goL (fun s_981 => (((((.ok r.1 : Res Str)).bind fun v_986 => ((.ok none : Res (Option Int))).bind fun v_987 => (((((.ok tp_888.a : Res (Int × Int))).bind fun v_982 => .ok v_982.1).bind fun v_983 => ((.ok 1 : Res Int)).bind fun v_984 => .ok (v_983 - v_984)).bind fun v_985 => .ok (some v_985)).bind fun v_988 => cutR v_986 v_987 v_988).bind fun v_989 => ((.ok s_981.1 : Res Str)).bind fun v_990 => catS v_989 v_990).bind fun v_996 => (((.ok r.1 : Res Str)).bind fun v_993 => ((((.ok tp_888.a : Res (Int × Int))).bind fun v_991 => .ok v_991.2).bind fun v_992 => .ok (some v_992)).bind fun v_994 => ((.ok none : Res (Option Int))).bind fun v_995 => cutR v_993 v_994 v_995).bind fun v_997 => catS v_996 v_997).bind fun r_998 => .ok (.rt r_998))))
def m__law_worked (r : A__law_worked) : Res Str := (b__law_worked r).bind (Fl.fin fun _ => .err)
theorem h__law_worked {G : Gv} {X : Cx} {W : WX} (B : Bn G X.K X.mg) (C : Dd G X W N__law_worked sc__law_worked 1) (F__law_number : Fx G X false "_law_number" (Rt t__law_number m__law_number) [] 1) (r : A__law_worked) : HL G X W none false (entryΓ 9 (t__law_worked r)) (defBody (top 47)) (fun _ : Unit => [.any, .any, .any, .any, .any, .any, .any, .any, .any]) (b__law_worked r) :=
  by
  have z : entryΓ 9 (t__law_worked r) = [.val (enc (r.1 : Str)), .val (enc (r.2.1 : (T4 (Int × Int) (Int × Int) Str (Int × Int)))), .any, .any, .any, .any, .any, .any, .any] := rfl
  rw [z]
  unfold b__law_worked
  exact (hl_tgt C trivial (tv_var (i := 1) C.toDx rfl rfl rfl) (tg_tup C.toDx (tgs_cons (Γ1 := fun (t_889 : (Int × Int)) => [.val (enc (r.1 : Str)), .val (enc (r.2.1 : (T4 (Int × Int) (Int × Int) Str (Int × Int)))), .val (enc (t_889 : (Int × Int))), .any, .any, .any, .any, .any, .any]) (tg_name (i := 2) C.toDx rfl rfl (.inl C.fn) (fun _ => rfl)) fun t_889 => (tgs_cons (Γ1 := fun (t_890 : (Int × Int)) => [.val (enc (r.1 : Str)), .val (enc (r.2.1 : (T4 (Int × Int) (Int × Int) Str (Int × Int)))), .val (enc (t_889 : (Int × Int))), .val (enc (t_890 : (Int × Int))), .any, .any, .any, .any, .any]) (tg_name (i := 3) C.toDx rfl rfl (.inl C.fn) (fun _ => rfl)) fun t_890 => (tgs_cons (Γ1 := fun (t_891 : Str) => [.val (enc (r.1 : Str)), .val (enc (r.2.1 : (T4 (Int × Int) (Int × Int) Str (Int × Int)))), .val (enc (t_889 : (Int × Int))), .val (enc (t_890 : (Int × Int))), .val (enc (t_891 : Str)), .any, .any, .any, .any]) (tg_name (i := 4) C.toDx rfl rfl (.inl C.fn) (fun _ => rfl)) fun t_891 => (tgs_cons (Γ1 := fun (t_892 : (Int × Int)) => [.val (enc (r.1 : Str)), .val (enc (r.2.1 : (T4 (Int × Int) (Int × Int) Str (Int × Int)))), .val (enc (t_889 : (Int × Int))), .val (enc (t_890 : (Int × Int))), .val (enc (t_891 : Str)), .val (enc (t_892 : (Int × Int))), .any, .any, .any]) (tg_name (i := 5) C.toDx rfl rfl (.inl C.fn) (fun _ => rfl)) fun t_892 => tgs_nil)))) (fun p_893 : (T4 (Int × Int) (Int × Int) Str (Int × Int)) => (p_893.a, p_893.b, p_893.c, p_893.d, ())) (fun _ => rfl) (fun _ => rfl) (fun _ => rfl)) (Γ' := fun (tp_888 : (T4 (Int × Int) (Int × Int) Str (Int × Int))) => [.val (enc (r.1 : Str)), .val (enc (r.2.1 : (T4 (Int × Int) (Int × Int) Str (Int × Int)))), .val (enc (tp_888.a : (Int × Int))), .val (enc (tp_888.b : (Int × Int))), .val (enc (tp_888.c : Str)), .val (enc (tp_888.d : (Int × Int))), .any, .any, .any]) fun tp_888 => (hl_set (i := 6) C trivial rfl rfl (tv_add (R := .av/-p-/) (tv_call C.toDx F__law_number (by decide) rfl (ea_cons (tv_any (tv_var (i := 0) C.toDx rfl rfl rfl)) (ea_cons (tv_any (tv_var (i := 3) C.toDx rfl rfl rfl)) (ea_nil (R := .top))))) (tv_call C.toDx F__law_number (by decide) rfl (ea_cons (tv_any (tv_var (i := 0) C.toDx rfl rfl rfl)) (ea_cons (tv_any (tv_var (i := 5) C.toDx rfl rfl rfl)) (ea_nil (R := .top)))))) (Γ' := fun (value_894 : Int) => [.val (enc (r.1 : Str)), .val (enc (r.2.1 : (T4 (Int × Int) (Int × Int) Str (Int × Int)))), .val (enc (tp_888.a : (Int × Int))), .val (enc (tp_888.b : (Int × Int))), .val (enc (tp_888.c : Str)), .val (enc (tp_888.d : (Int × Int))), .val (enc (value_894 : Int)), .any, .any]) (fun _ => rfl) fun value_894 => (hl_consL (G1 := (fun (s_919 : (Int × Unit)) => [.val (enc (r.1 : Str)), .val (enc (r.2.1 : (T4 (Int × Int) (Int × Int) Str (Int × Int)))), .val (enc (tp_888.a : (Int × Int))), .val (enc (tp_888.b : (Int × Int))), .val (enc (tp_888.c : Str)), .val (enc (tp_888.d : (Int × Int))), .val (enc (s_919.1 : Int)), .any, .any])) (hs_if trivial (tb_cmp (cmp_eq C.toDx (by decide)) (fun _ _ _ h => nomatch h) (tv_var (i := 4) C.toDx rfl rfl rfl) (tv_str (R := .av/-p-/)) rfl) (hl_set (i := 6) C trivial rfl rfl (tv_sub (R := .av/-p-/) (tv_call C.toDx F__law_number (by decide) rfl (ea_cons (tv_any (tv_var (i := 0) C.toDx rfl rfl rfl)) (ea_cons (tv_any (tv_var (i := 3) C.toDx rfl rfl rfl)) (ea_nil (R := .top))))) (tv_call C.toDx F__law_number (by decide) rfl (ea_cons (tv_any (tv_var (i := 0) C.toDx rfl rfl rfl)) (ea_cons (tv_any (tv_var (i := 5) C.toDx rfl rfl rfl)) (ea_nil (R := .top)))))) (Γ' := fun (value_920 : Int) => [.val (enc (r.1 : Str)), .val (enc (r.2.1 : (T4 (Int × Int) (Int × Int) Str (Int × Int)))), .val (enc (tp_888.a : (Int × Int))), .val (enc (tp_888.b : (Int × Int))), .val (enc (tp_888.c : Str)), .val (enc (tp_888.d : (Int × Int))), .val (enc (value_920 : Int)), .any, .any]) (fun _ => rfl) fun value_920 => (hl_end (Sub.same (Sub.same (Sub.same (Sub.same (Sub.same (Sub.same (Sub.same (Sub.same (Sub.same Sub.nil))))))))))) (hl_end (Sub.same (Sub.same (Sub.same (Sub.same (Sub.same (Sub.same (Sub.same (Sub.same (Sub.same Sub.nil))))))))))) (fun s_931 => (hl_consL (G1 := (fun (s_946 : (Int × Unit)) => [.val (enc (r.1 : Str)), .val (enc (r.2.1 : (T4 (Int × Int) (Int × Int) Str (Int × Int)))), .val (enc (tp_888.a : (Int × Int))), .val (enc (tp_888.b : (Int × Int))), .val (enc (tp_888.c : Str)), .val (enc (tp_888.d : (Int × Int))), .val (enc (s_946.1 : Int)), .any, .any])) (hs_if trivial (tb_cmp (cmp_eq C.toDx (by decide)) (fun _ _ _ h => nomatch h) (tv_var (i := 4) C.toDx rfl rfl rfl) (tv_str (R := .av/-p-/)) rfl) (hl_set (i := 6) C trivial rfl rfl (tv_mul (R := .av/-p-/) (tv_call C.toDx F__law_number (by decide) rfl (ea_cons (tv_any (tv_var (i := 0) C.toDx rfl rfl rfl)) (ea_cons (tv_any (tv_var (i := 3) C.toDx rfl rfl rfl)) (ea_nil (R := .top))))) (tv_call C.toDx F__law_number (by decide) rfl (ea_cons (tv_any (tv_var (i := 0) C.toDx rfl rfl rfl)) (ea_cons (tv_any (tv_var (i := 5) C.toDx rfl rfl rfl)) (ea_nil (R := .top)))))) (Γ' := fun (value_947 : Int) => [.val (enc (r.1 : Str)), .val (enc (r.2.1 : (T4 (Int × Int) (Int × Int) Str (Int × Int)))), .val (enc (tp_888.a : (Int × Int))), .val (enc (tp_888.b : (Int × Int))), .val (enc (tp_888.c : Str)), .val (enc (tp_888.d : (Int × Int))), .val (enc (value_947 : Int)), .any, .any]) (fun _ => rfl) fun value_947 => (hl_end (Sub.same (Sub.same (Sub.same (Sub.same (Sub.same (Sub.same (Sub.same (Sub.same (Sub.same Sub.nil))))))))))) (hl_end (Sub.same (Sub.same (Sub.same (Sub.same (Sub.same (Sub.same (Sub.same (Sub.same (Sub.same Sub.nil))))))))))) (fun s_958 => (hl_set (i := 7) C trivial rfl rfl (tv_str (R := .av/-p-/)) (Γ' := fun (text_959 : Str) => [.val (enc (r.1 : Str)), .val (enc (r.2.1 : (T4 (Int × Int) (Int × Int) Str (Int × Int)))), .val (enc (tp_888.a : (Int × Int))), .val (enc (tp_888.b : (Int × Int))), .val (enc (tp_888.c : Str)), .val (enc (tp_888.d : (Int × Int))), .val (enc (s_958.1 : Int)), .val (enc (text_959 : Str)), .any]) (fun _ => rfl) fun text_959 => (hl_consL (G1 := (fun (s_960 : (Str × (Int × Unit))) => [.val (enc (r.1 : Str)), .val (enc (r.2.1 : (T4 (Int × Int) (Int × Int) Str (Int × Int)))), .val (enc (tp_888.a : (Int × Int))), .val (enc (tp_888.b : (Int × Int))), .val (enc (tp_888.c : Str)), .val (enc (tp_888.d : (Int × Int))), .val (enc (s_960.2.1 : Int)), .val (enc (s_960.1 : Str)), .any])) (hs_for (Gs := (fun (s_960 : (Str × (Int × Unit))) => [.val (enc (r.1 : Str)), .val (enc (r.2.1 : (T4 (Int × Int) (Int × Int) Str (Int × Int)))), .val (enc (tp_888.a : (Int × Int))), .val (enc (tp_888.b : (Int × Int))), .val (enc (tp_888.c : Str)), .val (enc (tp_888.d : (Int × Int))), .val (enc (s_960.2.1 : Int)), .val (enc (s_960.1 : Str)), .any])) (Γ1 := fun (s_961 : (Str × (Int × Unit))) (x_969 : Int) => [.val (enc (r.1 : Str)), .val (enc (r.2.1 : (T4 (Int × Int) (Int × Int) Str (Int × Int)))), .val (enc (tp_888.a : (Int × Int))), .val (enc (tp_888.b : (Int × Int))), .val (enc (tp_888.c : Str)), .val (enc (tp_888.d : (Int × Int))), .val (enc (s_961.2.1 : Int)), .val (enc (s_961.1 : Str)), .val (enc (x_969 : Int))]) (s0 := (text_959, (s_958.1, ()))) C trivial (es_rng1 C.toDx (tv_add (R := .av/-p-/) (tv_sub (R := .av/-p-/) (tv_ixT C.toDx (tv_var (i := 2) C.toDx rfl rfl rfl) (fun x : (Int × Int) => x.2) (fun _ => ⟨_, rfl, rfl⟩)) (tv_ixT C.toDx (tv_var (i := 2) C.toDx rfl rfl rfl) (fun x : (Int × Int) => x.1) (fun _ => ⟨_, rfl, rfl⟩))) (tv_int (R := .av/-p-/))) rfl B.n_range) (Sub.same (Sub.same (Sub.same (Sub.same (Sub.same (Sub.same (Sub.same (Sub.same (Sub.same Sub.nil))))))))) (fun s_961 => (tg_name (i := 8) C.toDx rfl rfl (.inl C.fn) (fun _ => rfl))) (fun x_969 s_961 => (hl_set (i := 7) C trivial rfl rfl (tv_catS (R := .av/-p-/) (tv_ixS (R := .av/-p-/) (tv_str (R := .av/-p-/)) (tv_mod (R := .av/-p-/) (tv_var (i := 6) C.toDx rfl rfl rfl) (tv_int (R := .av/-p-/)))) (tv_var (i := 7) C.toDx rfl rfl rfl)) (Γ' := fun (text_970 : Str) => [.val (enc (r.1 : Str)), .val (enc (r.2.1 : (T4 (Int × Int) (Int × Int) Str (Int × Int)))), .val (enc (tp_888.a : (Int × Int))), .val (enc (tp_888.b : (Int × Int))), .val (enc (tp_888.c : Str)), .val (enc (tp_888.d : (Int × Int))), .val (enc (s_961.2.1 : Int)), .val (enc (text_970 : Str)), .val (enc (x_969 : Int))]) (fun _ => rfl) fun text_970 => (hl_set (i := 6) C trivial rfl rfl (tv_div (R := .av/-p-/) (tv_var (i := 6) C.toDx rfl rfl rfl) (tv_int (R := .av/-p-/))) (Γ' := fun (value_977 : Int) => [.val (enc (r.1 : Str)), .val (enc (r.2.1 : (T4 (Int × Int) (Int × Int) Str (Int × Int)))), .val (enc (tp_888.a : (Int × Int))), .val (enc (tp_888.b : (Int × Int))), .val (enc (tp_888.c : Str)), .val (enc (tp_888.d : (Int × Int))), .val (enc (value_977 : Int)), .val (enc (text_970 : Str)), .val (enc (x_969 : Int))]) (fun _ => rfl) fun value_977 => (hl_end (Sub.same (Sub.same (Sub.same (Sub.same (Sub.same (Sub.same (Sub.same (Sub.same (Sub.any Sub.nil)))))))))))))) (fun s_981 => (hl_ret trivial (tv_catS (R := .fr/-p-/) (tv_catS (R := .fr/-p-/) (tv_slS (R := .fr/-p-/) (tv_var (i := 0) C.toDx rfl rfl rfl) eo_none (eo_some (tv_sub (R := .fr/-p-/) (tv_ixT C.toDx (tv_var (i := 2) C.toDx rfl rfl rfl) (fun x : (Int × Int) => x.1) (fun _ => ⟨_, rfl, rfl⟩)) (tv_int (R := .fr/-p-/))))) (tv_var (i := 7) C.toDx rfl rfl rfl)) (tv_slS (R := .fr/-p-/) (tv_var (i := 0) C.toDx rfl rfl rfl) (eo_some (tv_ixT C.toDx (tv_var (i := 2) C.toDx rfl rfl rfl) (fun x : (Int × Int) => x.2) (fun _ => ⟨_, rfl, rfl⟩))) eo_none))))))))))))

abbrev A_Asking_5 : Type := (Str × ((List ((Int × Int) × Str)) × (Dt × ((List (Int × Int)) × ((Option (List (T4 (Int × Int) (Int × Int) Str (Int × Int)))) × Unit)))))
def t_Asking_5 : A_Asking_5 → List Dt := (tcons (α := Str) (tcons (α := (List ((Int × Int) × Str))) (tcons (α := Dt) (tcons (α := (List (Int × Int))) (tcons (α := (Option (List (T4 (Int × Int) (Int × Int) Str (Int × Int))))) tnil)))))
def cv_Asking_5 (r : A_Asking_5) : A_AskingU_initU := (r.1, r.2.1, r.2.2.1, r.2.2.2.1, r.2.2.2.2.1, 0, none, 6, none, ())
def dd_Asking_5 : List Dt := [.int 0, .non, .int 6, .non]
def dv_Asking_5 : List V := [.int 0, .non, .int 6, .non]
def mk_Asking_5 (r : A_Asking_5) : Res Asking := m_AskingU_initU (cv_Asking_5 r)

/-! ### law -/
abbrev N_law : List Str := ["_law_script", "_law_cell_here", "_law_words", "_law_one", "_law_other", "_law_first", "_law_works", "_law_deck", "_law_due", "_law_card_here", "_law_work", "_law_asking", "_law_trays", "_law_found", "_law_again", "_law_k", "_law_number_here"]
abbrev P_law : List Str := ["_law_script"]
abbrev sc_law : Scope := defScope (top 48)
abbrev A_law : Type := (Scr × Unit)
def t_law : A_law → List Dt := (tcons (α := Scr) tnil)
def b_law (r : A_law) : Res (Fl Unit Bool) := ((((.ok r.1 : Res Scr)).bind fun a_1002 => (((.ok 0 : Res Int)).bind fun a_1000 => ((.ok () : Res Unit)).bind fun r_1001 => .ok (a_1000, r_1001)).bind fun r_1003 => .ok (a_1002, r_1003)).bind m__law_cell).bind fun cell_here_999 => ((((.ok "plus" : Res Str)).bind fun a_1009 => (((.ok "less" : Res Str)).bind fun a_1007 => (((.ok "times" : Res Str)).bind fun a_1005 => ((.ok () : Res Unit)).bind fun r_1006 => .ok (a_1005, r_1006)).bind fun r_1008 => .ok (a_1007, r_1008)).bind fun r_1010 => .ok (a_1009, r_1010)).bind fun r => .ok ([r.1, r.2.1, r.2.2.1] : (List Str))).bind fun words_1004 => ((((((.ok r.1 : Res Scr)).bind fun a_1014 => (((.ok 1 : Res Int)).bind fun a_1012 => ((.ok () : Res Unit)).bind fun r_1013 => .ok (a_1012, r_1013)).bind fun r_1015 => .ok (a_1014, r_1015)).bind m__law_cell).bind fun a_1020 => (((.ok 13 : Res Int)).bind fun a_1018 => (((.ok 12 : Res Int)).bind fun a_1016 => ((.ok () : Res Unit)).bind fun r_1017 => .ok (a_1016, r_1017)).bind fun r_1019 => .ok (a_1018, r_1019)).bind fun r_1021 => .ok (a_1020, r_1021)).bind m__law_within).bind fun one_1011 => ((((((.ok r.1 : Res Scr)).bind fun a_1025 => (((.ok 2 : Res Int)).bind fun a_1023 => ((.ok () : Res Unit)).bind fun r_1024 => .ok (a_1023, r_1024)).bind fun r_1026 => .ok (a_1025, r_1026)).bind m__law_cell).bind fun a_1031 => (((.ok 25 : Res Int)).bind fun a_1029 => (((.ok 12 : Res Int)).bind fun a_1027 => ((.ok () : Res Unit)).bind fun r_1028 => .ok (a_1027, r_1028)).bind fun r_1030 => .ok (a_1029, r_1030)).bind fun r_1032 => .ok (a_1031, r_1032)).bind m__law_within).bind fun other_1022 => (((((.ok cell_here_999 : Res Int)).bind fun v_1034 => ((.ok 18 : Res Int)).bind fun v_1035 => divR v_1034 v_1035).bind fun a_1040 => (((.ok 1 : Res Int)).bind fun a_1038 => (((.ok 6 : Res Int)).bind fun a_1036 => ((.ok () : Res Unit)).bind fun r_1037 => .ok (a_1036, r_1037)).bind fun r_1039 => .ok (a_1038, r_1039)).bind fun r_1041 => .ok (a_1040, r_1041)).bind m__law_within).bind fun first_1033 => ((((((.ok first_1033 : Res (Int × Int))).bind fun a_1053 => (((.ok one_1011 : Res (Int × Int))).bind fun a_1051 => ((((.ok words_1004 : Res (List Str))).bind fun v_1045 => (((.ok cell_here_999 : Res Int)).bind fun v_1043 => ((.ok 3 : Res Int)).bind fun v_1044 => modR v_1043 v_1044).bind fun v_1046 => getI v_1045 v_1046).bind fun a_1049 => (((.ok other_1022 : Res (Int × Int))).bind fun a_1047 => ((.ok () : Res Unit)).bind fun r_1048 => .ok (a_1047, r_1048)).bind fun r_1050 => .ok (a_1049, r_1050)).bind fun r_1052 => .ok (a_1051, r_1052)).bind fun r_1054 => .ok (a_1053, r_1054)).bind fun r => .ok ((T4.mk r.1 r.2.1 r.2.2.1 r.2.2.2.1) : (T4 (Int × Int) (Int × Int) Str (Int × Int)))).bind fun a_1055 => ((.ok () : Res Unit)).bind fun r_1056 => .ok (a_1055, r_1056)).bind fun r => .ok ([r.1] : (List (T4 (Int × Int) (Int × Int) Str (Int × Int))))).bind fun works_1042 => ((((((.ok cell_here_999 : Res Int)).bind fun v_1057 => ((.ok 3 : Res Int)).bind fun v_1058 => divR v_1057 v_1058).bind fun v_1059 => ((.ok 2 : Res Int)).bind fun v_1060 => modR v_1059 v_1060).bind fun v_1061 => ((.ok 1 : Res Int)).bind fun v_1062 => .ok (decide (v_1061 = v_1062))).bind fun z_1063 => if z_1063 = true then (((((((.ok cell_here_999 : Res Int)).bind fun v_1100 => ((.ok 36 : Res Int)).bind fun v_1101 => divR v_1100 v_1101).bind fun a_1106 => (((.ok 7 : Res Int)).bind fun a_1104 => (((.ok 6 : Res Int)).bind fun a_1102 => ((.ok () : Res Unit)).bind fun r_1103 => .ok (a_1102, r_1103)).bind fun r_1105 => .ok (a_1104, r_1105)).bind fun r_1107 => .ok (a_1106, r_1107)).bind m__law_within).bind fun a_1130 => ((((((.ok first_1033 : Res (Int × Int))).bind fun a_1110 => (((.ok other_1022 : Res (Int × Int))).bind fun a_1108 => ((.ok () : Res Unit)).bind fun r_1109 => .ok (a_1108, r_1109)).bind fun r_1111 => .ok (a_1110, r_1111)).bind fun r => .ok ([r.1, r.2.1] : (List (Int × Int)))).bind fun v_1116 => ((((.ok cell_here_999 : Res Int)).bind fun v_1112 => ((.ok 6 : Res Int)).bind fun v_1113 => divR v_1112 v_1113).bind fun v_1114 => ((.ok 2 : Res Int)).bind fun v_1115 => modR v_1114 v_1115).bind fun v_1117 => getI v_1116 v_1117).bind fun a_1128 => ((((.ok words_1004 : Res (List Str))).bind fun v_1122 => ((((.ok cell_here_999 : Res Int)).bind fun v_1118 => ((.ok 6 : Res Int)).bind fun v_1119 => divR v_1118 v_1119).bind fun v_1120 => ((.ok 3 : Res Int)).bind fun v_1121 => modR v_1120 v_1121).bind fun v_1123 => getI v_1122 v_1123).bind fun a_1126 => (((.ok one_1011 : Res (Int × Int))).bind fun a_1124 => ((.ok () : Res Unit)).bind fun r_1125 => .ok (a_1124, r_1125)).bind fun r_1127 => .ok (a_1126, r_1127)).bind fun r_1129 => .ok (a_1128, r_1129)).bind fun r_1131 => .ok (a_1130, r_1131)).bind fun r => .ok ((T4.mk r.1 r.2.1 r.2.2.1 r.2.2.2.1) : (T4 (Int × Int) (Int × Int) Str (Int × Int)))).bind fun a_1132 => chk (works_1042.length < SZ) ((fun (works_1099 : (List (T4 (Int × Int) (Int × Int) Str (Int × Int)))) => .ok (.nx (works_1099, ()))) (works_1042 ++ [a_1132])) else .ok (.nx (works_1042, ())) : Res (Fl ((List (T4 (Int × Int) (Int × Int) Str (Int × Int))) × Unit) Bool)).bind fun f => f.goL (fun s_1133 => ((((.ok r.1 : Res Scr)).bind fun v_1137 => (((.ok 3 : Res Int)).bind fun v_1135 => .ok (some v_1135)).bind fun v_1138 => (((.ok 43 : Res Int)).bind fun v_1136 => .ok (some v_1136)).bind fun v_1139 => .ok (cutL v_1137.ns v_1138 v_1139)).bind fun v_1140 => .ok (enumL v_1140)).bind fun xs_1149 => (nox (lcR xs_1149 (fun (x_1141 : (Int × Int)) => .ok true) (fun (x_1141 : (Int × Int)) => (((.ok x_1141.2 : Res Int)).bind fun a_1147 => (((.ok x_1141.1 : Res Int)).bind fun a_1145 => ((.ok () : Res Unit)).bind fun r_1146 => .ok (a_1145, r_1146)).bind fun r_1148 => .ok (a_1147, r_1148)).bind m__law_card))).bind fun deck_1134 => (((.ok deck_1134 : Res (List Str))).bind fun xs_1165 => forR xs_1165 ((([] : List Str), ()) : ((List Str) × Unit)) (fun (x_1152 : Str) (s_1151 : ((List Str) × Unit)) => (((.ok s_1133.1 : Res (List (T4 (Int × Int) (Int × Int) Str (Int × Int))))).bind fun xs_1161 => forR xs_1161 ((x_1152, ()) : (Str × Unit)) (fun (x_1155 : (T4 (Int × Int) (Int × Int) Str (Int × Int))) (s_1154 : (Str × Unit)) => ((((.ok s_1154.1 : Res Str)).bind fun a_1159 => (((.ok x_1155 : Res (T4 (Int × Int) (Int × Int) Str (Int × Int)))).bind fun a_1157 => ((.ok () : Res Unit)).bind fun r_1158 => .ok (a_1157, r_1158)).bind fun r_1160 => .ok (a_1159, r_1160)).bind m__law_worked).bind fun card_here_1156 => .ok (.nx (card_here_1156, ()))) : Res (Fl (Str × Unit) Bool)).bind fun f => f.goL (fun s_1162 => ((.ok s_1162.1 : Res Str)).bind fun a_1164 => chk (s_1151.1.length < SZ) ((fun (due_1163 : (List Str)) => .ok (.nx (due_1163, ()))) (s_1151.1 ++ [a_1164])))) : Res (Fl ((List Str) × Unit) Bool)).bind fun f => f.goL (fun s_1166 => ((((.ok "pay" : Res Str)).bind fun a_1177 => ((((.ok () : Res Unit).bind fun r => .ok ([] : (List ((Int × Int) × Str))))).bind fun a_1175 => (((.ok Dt.non : Res Dt)).bind fun a_1173 => ((((.ok () : Res Unit).bind fun r => .ok ([] : (List (Int × Int))))).bind fun a_1171 => (((((.ok s_1133.1 : Res (List (T4 (Int × Int) (Int × Int) Str (Int × Int))))).bind fun v_1168 => .ok v_1168).map some).bind fun a_1169 => ((.ok () : Res Unit)).bind fun r_1170 => .ok (a_1169, r_1170)).bind fun r_1172 => .ok (a_1171, r_1172)).bind fun r_1174 => .ok (a_1173, r_1174)).bind fun r_1176 => .ok (a_1175, r_1176)).bind fun r_1178 => .ok (a_1177, r_1178)).bind fun r => nox (mk_Asking_5 r)).bind fun asking_1167 => ((((.ok deck_1134 : Res (List Str))).bind fun v_1180 => .ok v_1180).bind fun v_1181 => .ok (Dct.mk [(("pay" : Str), v_1181)])).bind fun trays_1179 => ((((.ok asking_1167 : Res Asking)).bind fun a_1185 => (((.ok trays_1179 : Res (Dct Str (List Str)))).bind fun a_1183 => ((.ok () : Res Unit)).bind fun r_1184 => .ok (a_1183, r_1184)).bind fun r_1186 => .ok (a_1185, r_1186)).bind m_chosen_deck).bind fun found_1182 => (orR ((((.ok found_1182 : Res (List Str))).bind fun v_1187 => .ok true).bind fun v_1188 => .ok (!v_1188)) (orR (((.ok found_1182 : Res (List Str))).bind fun v_1189 => ((.ok s_1166.1 : Res (List Str))).bind fun v_1190 => .ok (!decide (v_1189 = v_1190))) (((.ok trays_1179 : Res (Dct Str (List Str)))).bind fun v_1192 => (((.ok deck_1134 : Res (List Str))).bind fun v_1191 => .ok (Dct.mk [(("pay" : Str), v_1191)])).bind fun v_1193 => dneR v_1192 v_1193))).bind fun z_1194 => if z_1194 = true then (((.ok false : Res Bool)).bind fun r_1195 => .ok (.rt r_1195) : Res (Fl Unit Bool)).bind Fl.cut else ((((.ok asking_1167 : Res Asking)).bind fun a_1201 => (((((.ok found_1182 : Res (List Str))).bind fun v_1197 => .ok v_1197).bind fun v_1198 => .ok (Dct.mk [(("pay" : Str), v_1198)])).bind fun a_1199 => ((.ok () : Res Unit)).bind fun r_1200 => .ok (a_1199, r_1200)).bind fun r_1202 => .ok (a_1201, r_1202)).bind m_chosen_deck).bind fun again_1196 => (andR (((.ok again_1196 : Res (List Str))).bind fun v_1203 => .ok true) (((.ok again_1196 : Res (List Str))).bind fun v_1204 => ((.ok s_1166.1 : Res (List Str))).bind fun v_1205 => .ok (decide (v_1204 = v_1205)))).bind fun r_1206 => .ok (.rt r_1206)))
def m_law (r : A_law) : Res Bool := (b_law r).bind (Fl.fin fun _ => .err)
theorem h_law {G : Gv} {X : Cx} {W : WX} (B : Bn G X.K X.mg) (C : Dd G X W N_law sc_law 7) (F__law_cell : Fx G X false "_law_cell" (Rt t__law_cell m__law_cell) [] 1) (F__law_within : Fx G X false "_law_within" (Rt t__law_within m__law_within) [] 1) (F__law_card : Fx G X false "_law_card" (Rt t__law_card m__law_card) [] 1) (F__law_worked : Fx G X false "_law_worked" (Rt t__law_worked m__law_worked) [] 2) (F_chosen_deck : Fx G X false "chosen_deck" (Rt t_chosen_deck m_chosen_deck) [] 7) (K_Asking_5 : Fz' G X 0 "Asking" (RtI (fun r => t_Asking_5 r ++ dd_Asking_5) (fun r => (mk_Asking_5 r).map flds_Asking)) dv_Asking_5 6) (r : A_law) : HL G X W none false (entryΓ 17 (t_law r)) (defBody (top 48)) (fun _ : Unit => [.any, .any, .any, .any, .any, .any, .any, .any, .any, .any, .any, .any, .any, .any, .any, .any, .any]) (b_law r) :=
  by
  have z : entryΓ 17 (t_law r) = [.val (enc (r.1 : Scr)), .any, .any, .any, .any, .any, .any, .any, .any, .any, .any, .any, .any, .any, .any, .any, .any] := rfl
  rw [z]
  unfold b_law
  exact (hl_set (i := 1) C trivial rfl rfl (tv_flat (R := .av) (tv_call C.toDx F__law_cell (by decide) rfl (ea_cons (tv_any (tv_var (i := 0) C.toDx rfl rfl rfl)) (ea_cons (tv_int (R := .top/-p-/)) (ea_nil (R := .top)))))) (Γ' := fun (cell_here_999 : Int) => [.val (enc (r.1 : Scr)), .val (enc (cell_here_999 : Int)), .any, .any, .any, .any, .any, .any, .any, .any, .any, .any, .any, .any, .any, .any, .any]) (fun _ => rfl) fun cell_here_999 => (hl_set (i := 2) C trivial rfl rfl (tv_list (ea_cons (tv_str (R := .av/-p-/)) (ea_cons (tv_str (R := .av/-p-/)) (ea_cons (tv_str (R := .av/-p-/)) (ea_nil (R := .av/-p-/))))) (fun r => ([r.1, r.2.1, r.2.2.1] : (List Str))) (fun _ => rfl) (by decide) (fun _ => rfl)) (Γ' := fun (words_1004 : (List Str)) => [.val (enc (r.1 : Scr)), .val (enc (cell_here_999 : Int)), .val (enc (words_1004 : (List Str))), .any, .any, .any, .any, .any, .any, .any, .any, .any, .any, .any, .any, .any, .any]) (fun _ => rfl) fun words_1004 => (hl_set (i := 3) C trivial rfl rfl (tv_flat (R := .av) (tv_call C.toDx F__law_within (by decide) rfl (ea_cons (tv_any (tv_call C.toDx F__law_cell (by decide) rfl (ea_cons (tv_any (tv_var (i := 0) C.toDx rfl rfl rfl)) (ea_cons (tv_int (R := .top/-p-/)) (ea_nil (R := .top)))))) (ea_cons (tv_int (R := .top/-p-/)) (ea_cons (tv_int (R := .top/-p-/)) (ea_nil (R := .top))))))) (Γ' := fun (one_1011 : (Int × Int)) => [.val (enc (r.1 : Scr)), .val (enc (cell_here_999 : Int)), .val (enc (words_1004 : (List Str))), .val (enc (one_1011 : (Int × Int))), .any, .any, .any, .any, .any, .any, .any, .any, .any, .any, .any, .any, .any]) (fun _ => rfl) fun one_1011 => (hl_set (i := 4) C trivial rfl rfl (tv_flat (R := .av) (tv_call C.toDx F__law_within (by decide) rfl (ea_cons (tv_any (tv_call C.toDx F__law_cell (by decide) rfl (ea_cons (tv_any (tv_var (i := 0) C.toDx rfl rfl rfl)) (ea_cons (tv_int (R := .top/-p-/)) (ea_nil (R := .top)))))) (ea_cons (tv_int (R := .top/-p-/)) (ea_cons (tv_int (R := .top/-p-/)) (ea_nil (R := .top))))))) (Γ' := fun (other_1022 : (Int × Int)) => [.val (enc (r.1 : Scr)), .val (enc (cell_here_999 : Int)), .val (enc (words_1004 : (List Str))), .val (enc (one_1011 : (Int × Int))), .val (enc (other_1022 : (Int × Int))), .any, .any, .any, .any, .any, .any, .any, .any, .any, .any, .any, .any]) (fun _ => rfl) fun other_1022 => (hl_set (i := 5) C trivial rfl rfl (tv_flat (R := .av) (tv_call C.toDx F__law_within (by decide) rfl (ea_cons (tv_div (R := .top/-p-/) (tv_var (i := 1) C.toDx rfl rfl rfl) (tv_int (R := .top/-p-/))) (ea_cons (tv_int (R := .top/-p-/)) (ea_cons (tv_int (R := .top/-p-/)) (ea_nil (R := .top))))))) (Γ' := fun (first_1033 : (Int × Int)) => [.val (enc (r.1 : Scr)), .val (enc (cell_here_999 : Int)), .val (enc (words_1004 : (List Str))), .val (enc (one_1011 : (Int × Int))), .val (enc (other_1022 : (Int × Int))), .val (enc (first_1033 : (Int × Int))), .any, .any, .any, .any, .any, .any, .any, .any, .any, .any, .any]) (fun _ => rfl) fun first_1033 => (hl_own (i := 6) C trivial rfl rfl (tv_list (ea_cons (tv_tup (ea_cons (tv_flat (R := .nw/-p-/) (tv_var (i := 5) C.toDx rfl rfl rfl)) (ea_cons (tv_flat (R := .nw/-p-/) (tv_var (i := 3) C.toDx rfl rfl rfl)) (ea_cons (tv_flat (R := .nw/-p-/) (tv_ix C.toDx (tv_var (i := 2) C.toDx rfl rfl rfl) (tv_mod (R := .nw/-p-/) (tv_var (i := 1) C.toDx rfl rfl rfl) (tv_int (R := .nw/-p-/))))) (ea_cons (tv_flat (R := .nw/-p-/) (tv_var (i := 4) C.toDx rfl rfl rfl)) (ea_nil (R := .nw/-p-/)))))) (fun r => ((T4.mk r.1 r.2.1 r.2.2.1 r.2.2.2.1) : (T4 (Int × Int) (Int × Int) Str (Int × Int)))) (fun _ => rfl) (by decide) (fun _ => rfl)) (ea_nil (R := .nw/-p-/))) (fun r => ([r.1] : (List (T4 (Int × Int) (Int × Int) Str (Int × Int))))) (fun _ => rfl) (by decide) (fun _ => rfl)) (by decide) (Nat.le_of_ble_eq_true rfl) (Γ' := fun (works_1042 : (List (T4 (Int × Int) (Int × Int) Str (Int × Int)))) => [.val (enc (r.1 : Scr)), .val (enc (cell_here_999 : Int)), .val (enc (words_1004 : (List Str))), .val (enc (one_1011 : (Int × Int))), .val (enc (other_1022 : (Int × Int))), .val (enc (first_1033 : (Int × Int))), .own (.l ((works_1042 : List (T4 (Int × Int) (Int × Int) Str (Int × Int))).map enc)), .any, .any, .any, .any, .any, .any, .any, .any, .any, .any]) (fun _ => rfl) fun works_1042 => (hl_consL (G1 := (fun (s_1098 : ((List (T4 (Int × Int) (Int × Int) Str (Int × Int))) × Unit)) => [.val (enc (r.1 : Scr)), .val (enc (cell_here_999 : Int)), .val (enc (words_1004 : (List Str))), .val (enc (one_1011 : (Int × Int))), .val (enc (other_1022 : (Int × Int))), .val (enc (first_1033 : (Int × Int))), .own (.l ((s_1098.1 : List (T4 (Int × Int) (Int × Int) Str (Int × Int))).map enc)), .any, .any, .any, .any, .any, .any, .any, .any, .any, .any])) (hs_if trivial (tb_cmp (cmp_eq C.toDx (by decide)) (fun _ _ _ h => nomatch h) (tv_mod (R := .av/-p-/) (tv_div (R := .av/-p-/) (tv_var (i := 1) C.toDx rfl rfl rfl) (tv_int (R := .av/-p-/))) (tv_int (R := .av/-p-/))) (tv_int (R := .av/-p-/)) rfl) (hl_app (i := 6) (xs := works_1042) (M := fun (works_1099 : (List (T4 (Int × Int) (Int × Int) Str (Int × Int)))) => .ok (.nx (works_1099, ()))) C.toDx trivial rfl rfl rfl (tv_tup (ea_cons (tv_flat (R := .av/-p-/) (tv_call C.toDx F__law_within (by decide) rfl (ea_cons (tv_div (R := .top/-p-/) (tv_var (i := 1) C.toDx rfl rfl rfl) (tv_int (R := .top/-p-/))) (ea_cons (tv_int (R := .top/-p-/)) (ea_cons (tv_int (R := .top/-p-/)) (ea_nil (R := .top))))))) (ea_cons (tv_ix C.toDx (tv_list (ea_cons (tv_flat (R := .av/-p-/) (tv_var (i := 5) C.toDx rfl rfl rfl)) (ea_cons (tv_flat (R := .av/-p-/) (tv_var (i := 4) C.toDx rfl rfl rfl)) (ea_nil (R := .av/-p-/)))) (fun r => ([r.1, r.2.1] : (List (Int × Int)))) (fun _ => rfl) (by decide) (fun _ => rfl)) (tv_mod (R := .av/-p-/) (tv_div (R := .av/-p-/) (tv_var (i := 1) C.toDx rfl rfl rfl) (tv_int (R := .av/-p-/))) (tv_int (R := .av/-p-/)))) (ea_cons (tv_flat (R := .av/-p-/) (tv_ix C.toDx (tv_var (i := 2) C.toDx rfl rfl rfl) (tv_mod (R := .av/-p-/) (tv_div (R := .av/-p-/) (tv_var (i := 1) C.toDx rfl rfl rfl) (tv_int (R := .av/-p-/))) (tv_int (R := .av/-p-/))))) (ea_cons (tv_flat (R := .av/-p-/) (tv_var (i := 3) C.toDx rfl rfl rfl)) (ea_nil (R := .av/-p-/)))))) (fun r => ((T4.mk r.1 r.2.1 r.2.2.1 r.2.2.2.1) : (T4 (Int × Int) (Int × Int) Str (Int × Int)))) (fun _ => rfl) (by decide) (fun _ => rfl)) (Γ' := fun (works_1099 : (List (T4 (Int × Int) (Int × Int) Str (Int × Int)))) => [.val (enc (r.1 : Scr)), .val (enc (cell_here_999 : Int)), .val (enc (words_1004 : (List Str))), .val (enc (one_1011 : (Int × Int))), .val (enc (other_1022 : (Int × Int))), .val (enc (first_1033 : (Int × Int))), .own (.l ((works_1099 : List (T4 (Int × Int) (Int × Int) Str (Int × Int))).map enc)), .any, .any, .any, .any, .any, .any, .any, .any, .any, .any]) (fun _ => rfl) fun works_1099 => (hl_end (Sub.same (Sub.same (Sub.same (Sub.same (Sub.same (Sub.same (Sub.same (Sub.same (Sub.same (Sub.same (Sub.same (Sub.same (Sub.same (Sub.same (Sub.same (Sub.same (Sub.same Sub.nil))))))))))))))))))) (hl_end (Sub.same (Sub.same (Sub.same (Sub.same (Sub.same (Sub.same (Sub.same (Sub.same (Sub.same (Sub.same (Sub.same (Sub.same (Sub.same (Sub.same (Sub.same (Sub.same (Sub.same Sub.nil))))))))))))))))))) (fun s_1133 => (hl_setLc (i := 7) C trivial rfl rfl (es_enum C.toDx (tv_slScr (R := .av/-p-/) C.toDx (tv_var (i := 0) C.toDx rfl rfl rfl) (eo_some (tv_int (R := .av/-p-/))) (eo_some (tv_int (R := .av/-p-/)))) rfl B.n_enumerate) (⟨⟨rfl, by decide +kernel, by decide +kernel, by decide +kernel, by decide +kernel⟩, by decide, fun s_b H_b D_b cl_b fp_b C_b => ⟨(tg_tup C_b (tgs_cons (Γ1 := fun (t_1142 : Int) => [.val (enc (r.1 : Scr)), .val (enc (cell_here_999 : Int)), .val (enc (words_1004 : (List Str))), .val (enc (one_1011 : (Int × Int))), .val (enc (other_1022 : (Int × Int))), .val (enc (first_1033 : (Int × Int))), .own (.l ((s_1133.1 : List (T4 (Int × Int) (Int × Int) Str (Int × Int))).map enc)), .any, .any, .any, .any, .any, .any, .any, .any, .val (enc (t_1142 : Int)), .any]) (tg_name (i := 15) C_b rfl rfl (.inr rfl) (fun _ => rfl)) fun t_1142 => (tgs_cons (Γ1 := fun (t_1143 : Int) => [.val (enc (r.1 : Scr)), .val (enc (cell_here_999 : Int)), .val (enc (words_1004 : (List Str))), .val (enc (one_1011 : (Int × Int))), .val (enc (other_1022 : (Int × Int))), .val (enc (first_1033 : (Int × Int))), .own (.l ((s_1133.1 : List (T4 (Int × Int) (Int × Int) Str (Int × Int))).map enc)), .any, .any, .any, .any, .any, .any, .any, .any, .val (enc (t_1142 : Int)), .val (enc (t_1143 : Int))]) (tg_name (i := 16) C_b rfl rfl (.inr rfl) (fun _ => rfl)) fun t_1143 => tgs_nil)) (fun p_1144 : (Int × Int) => (p_1144.1, p_1144.2, ())) (fun _ => rfl) (fun _ => rfl) (fun _ => rfl)), fun x_1141 => eif_nil, fun x_1141 => (tv_flat (R := .av) (tv_call C_b F__law_card (by decide) rfl (ea_cons (tv_any (tv_var (i := 16) C_b rfl rfl rfl)) (ea_cons (tv_any (tv_var (i := 15) C_b rfl rfl rfl)) (ea_nil (R := .top))))))⟩⟩ : Blk G X N_law 7 sc_law _ _ _ _ _ _ [("_law_k", 15), ("_law_number_here", 16)] _ (α := (Int × Int)) (β := Str) (fun (x_1141 : (Int × Int)) => [.val (enc (r.1 : Scr)), .val (enc (cell_here_999 : Int)), .val (enc (words_1004 : (List Str))), .val (enc (one_1011 : (Int × Int))), .val (enc (other_1022 : (Int × Int))), .val (enc (first_1033 : (Int × Int))), .own (.l ((s_1133.1 : List (T4 (Int × Int) (Int × Int) Str (Int × Int))).map enc)), .any, .any, .any, .any, .any, .any, .any, .any, .val (enc (x_1141.1 : Int)), .val (enc (x_1141.2 : Int))]) (fun (x_1141 : (Int × Int)) => .ok true) (fun (x_1141 : (Int × Int)) => (((.ok x_1141.2 : Res Int)).bind fun a_1147 => (((.ok x_1141.1 : Res Int)).bind fun a_1145 => ((.ok () : Res Unit)).bind fun r_1146 => .ok (a_1145, r_1146)).bind fun r_1148 => .ok (a_1147, r_1148)).bind m__law_card)) nod_flat (Γ' := fun (deck_1134 : (List Str)) => [.val (enc (r.1 : Scr)), .val (enc (cell_here_999 : Int)), .val (enc (words_1004 : (List Str))), .val (enc (one_1011 : (Int × Int))), .val (enc (other_1022 : (Int × Int))), .val (enc (first_1033 : (Int × Int))), .own (.l ((s_1133.1 : List (T4 (Int × Int) (Int × Int) Str (Int × Int))).map enc)), .val (enc (deck_1134 : (List Str))), .any, .any, .any, .any, .any, .any, .any, .any, .any]) (fun _ => rfl) (fun deck_1134 => (hl_nilL (i := 8) C rfl rfl (by decide) (Nat.le_of_ble_eq_true rfl) (Γ' := [.val (enc (r.1 : Scr)), .val (enc (cell_here_999 : Int)), .val (enc (words_1004 : (List Str))), .val (enc (one_1011 : (Int × Int))), .val (enc (other_1022 : (Int × Int))), .val (enc (first_1033 : (Int × Int))), .own (.l ((s_1133.1 : List (T4 (Int × Int) (Int × Int) Str (Int × Int))).map enc)), .val (enc (deck_1134 : (List Str))), .own (.l ((([] : List Str) : List Str).map enc)), .any, .any, .any, .any, .any, .any, .any, .any]) rfl (hl_freeze (i := 6) rfl (Γ' := [.val (enc (r.1 : Scr)), .val (enc (cell_here_999 : Int)), .val (enc (words_1004 : (List Str))), .val (enc (one_1011 : (Int × Int))), .val (enc (other_1022 : (Int × Int))), .val (enc (first_1033 : (Int × Int))), .val (enc (s_1133.1 : (List (T4 (Int × Int) (Int × Int) Str (Int × Int))))), .val (enc (deck_1134 : (List Str))), .own (.l ((([] : List Str) : List Str).map enc)), .any, .any, .any, .any, .any, .any, .any, .any]) rfl (hl_consL (G1 := (fun (s_1150 : ((List Str) × Unit)) => [.val (enc (r.1 : Scr)), .val (enc (cell_here_999 : Int)), .val (enc (words_1004 : (List Str))), .val (enc (one_1011 : (Int × Int))), .val (enc (other_1022 : (Int × Int))), .val (enc (first_1033 : (Int × Int))), .val (enc (s_1133.1 : (List (T4 (Int × Int) (Int × Int) Str (Int × Int))))), .val (enc (deck_1134 : (List Str))), .own (.l ((s_1150.1 : List Str).map enc)), .any, .any, .any, .any, .any, .any, .any, .any])) (hs_for (Gs := (fun (s_1150 : ((List Str) × Unit)) => [.val (enc (r.1 : Scr)), .val (enc (cell_here_999 : Int)), .val (enc (words_1004 : (List Str))), .val (enc (one_1011 : (Int × Int))), .val (enc (other_1022 : (Int × Int))), .val (enc (first_1033 : (Int × Int))), .val (enc (s_1133.1 : (List (T4 (Int × Int) (Int × Int) Str (Int × Int))))), .val (enc (deck_1134 : (List Str))), .own (.l ((s_1150.1 : List Str).map enc)), .any, .any, .any, .any, .any, .any, .any, .any])) (Γ1 := fun (s_1151 : ((List Str) × Unit)) (x_1152 : Str) => [.val (enc (r.1 : Scr)), .val (enc (cell_here_999 : Int)), .val (enc (words_1004 : (List Str))), .val (enc (one_1011 : (Int × Int))), .val (enc (other_1022 : (Int × Int))), .val (enc (first_1033 : (Int × Int))), .val (enc (s_1133.1 : (List (T4 (Int × Int) (Int × Int) Str (Int × Int))))), .val (enc (deck_1134 : (List Str))), .own (.l ((s_1151.1 : List Str).map enc)), .val (enc (x_1152 : Str)), .any, .any, .any, .any, .any, .any, .any]) (s0 := (([] : List Str), ())) C trivial (es_list (tv_var (i := 7) C.toDx rfl rfl rfl)) (Sub.same (Sub.same (Sub.same (Sub.same (Sub.same (Sub.same (Sub.same (Sub.same (Sub.same (Sub.same (Sub.same (Sub.same (Sub.same (Sub.same (Sub.same (Sub.same (Sub.same Sub.nil))))))))))))))))) (fun s_1151 => (tg_name (i := 9) C.toDx rfl rfl (.inl C.fn) (fun _ => rfl))) (fun x_1152 s_1151 => (hl_consL (G1 := (fun (s_1153 : (Str × Unit)) => [.val (enc (r.1 : Scr)), .val (enc (cell_here_999 : Int)), .val (enc (words_1004 : (List Str))), .val (enc (one_1011 : (Int × Int))), .val (enc (other_1022 : (Int × Int))), .val (enc (first_1033 : (Int × Int))), .val (enc (s_1133.1 : (List (T4 (Int × Int) (Int × Int) Str (Int × Int))))), .val (enc (deck_1134 : (List Str))), .own (.l ((s_1151.1 : List Str).map enc)), .val (enc (s_1153.1 : Str)), .any, .any, .any, .any, .any, .any, .any])) (hs_for (Gs := (fun (s_1153 : (Str × Unit)) => [.val (enc (r.1 : Scr)), .val (enc (cell_here_999 : Int)), .val (enc (words_1004 : (List Str))), .val (enc (one_1011 : (Int × Int))), .val (enc (other_1022 : (Int × Int))), .val (enc (first_1033 : (Int × Int))), .val (enc (s_1133.1 : (List (T4 (Int × Int) (Int × Int) Str (Int × Int))))), .val (enc (deck_1134 : (List Str))), .own (.l ((s_1151.1 : List Str).map enc)), .val (enc (s_1153.1 : Str)), .any, .any, .any, .any, .any, .any, .any])) (Γ1 := fun (s_1154 : (Str × Unit)) (x_1155 : (T4 (Int × Int) (Int × Int) Str (Int × Int))) => [.val (enc (r.1 : Scr)), .val (enc (cell_here_999 : Int)), .val (enc (words_1004 : (List Str))), .val (enc (one_1011 : (Int × Int))), .val (enc (other_1022 : (Int × Int))), .val (enc (first_1033 : (Int × Int))), .val (enc (s_1133.1 : (List (T4 (Int × Int) (Int × Int) Str (Int × Int))))), .val (enc (deck_1134 : (List Str))), .own (.l ((s_1151.1 : List Str).map enc)), .val (enc (s_1154.1 : Str)), .val (enc (x_1155 : (T4 (Int × Int) (Int × Int) Str (Int × Int)))), .any, .any, .any, .any, .any, .any]) (s0 := (x_1152, ())) C trivial (es_list (tv_var (i := 6) C.toDx rfl rfl rfl)) (Sub.same (Sub.same (Sub.same (Sub.same (Sub.same (Sub.same (Sub.same (Sub.same (Sub.same (Sub.same (Sub.same (Sub.same (Sub.same (Sub.same (Sub.same (Sub.same (Sub.same Sub.nil))))))))))))))))) (fun s_1154 => (tg_name (i := 10) C.toDx rfl rfl (.inl C.fn) (fun _ => rfl))) (fun x_1155 s_1154 => (hl_set (i := 9) C trivial rfl rfl (tv_flat (R := .av) (tv_call C.toDx F__law_worked (by decide) rfl (ea_cons (tv_any (tv_var (i := 9) C.toDx rfl rfl rfl)) (ea_cons (tv_any (tv_var (i := 10) C.toDx rfl rfl rfl)) (ea_nil (R := .top)))))) (Γ' := fun (card_here_1156 : Str) => [.val (enc (r.1 : Scr)), .val (enc (cell_here_999 : Int)), .val (enc (words_1004 : (List Str))), .val (enc (one_1011 : (Int × Int))), .val (enc (other_1022 : (Int × Int))), .val (enc (first_1033 : (Int × Int))), .val (enc (s_1133.1 : (List (T4 (Int × Int) (Int × Int) Str (Int × Int))))), .val (enc (deck_1134 : (List Str))), .own (.l ((s_1151.1 : List Str).map enc)), .val (enc (card_here_1156 : Str)), .val (enc (x_1155 : (T4 (Int × Int) (Int × Int) Str (Int × Int)))), .any, .any, .any, .any, .any, .any]) (fun _ => rfl) fun card_here_1156 => (hl_end (Sub.same (Sub.same (Sub.same (Sub.same (Sub.same (Sub.same (Sub.same (Sub.same (Sub.same (Sub.same (Sub.any (Sub.same (Sub.same (Sub.same (Sub.same (Sub.same (Sub.same Sub.nil))))))))))))))))))))) (fun s_1162 => (hl_app (i := 8) (xs := s_1151.1) (M := fun (due_1163 : (List Str)) => .ok (.nx (due_1163, ()))) C.toDx trivial rfl rfl rfl (tv_var (i := 9) C.toDx rfl rfl rfl) (Γ' := fun (due_1163 : (List Str)) => [.val (enc (r.1 : Scr)), .val (enc (cell_here_999 : Int)), .val (enc (words_1004 : (List Str))), .val (enc (one_1011 : (Int × Int))), .val (enc (other_1022 : (Int × Int))), .val (enc (first_1033 : (Int × Int))), .val (enc (s_1133.1 : (List (T4 (Int × Int) (Int × Int) Str (Int × Int))))), .val (enc (deck_1134 : (List Str))), .own (.l ((due_1163 : List Str).map enc)), .val (enc (s_1162.1 : Str)), .any, .any, .any, .any, .any, .any, .any]) (fun _ => rfl) fun due_1163 => (hl_end (Sub.same (Sub.same (Sub.same (Sub.same (Sub.same (Sub.same (Sub.same (Sub.same (Sub.same (Sub.any (Sub.same (Sub.same (Sub.same (Sub.same (Sub.same (Sub.same (Sub.same Sub.nil))))))))))))))))))))))) (fun s_1166 => (hl_set (i := 11) C trivial rfl rfl (tv_make C.toDx K_Asking_5 (by decide) rfl (ea_cons (tv_str (R := .av/-p-/)) (ea_cons (tv_list (ea_nil (R := .av/-p-/)) (fun r => ([] : (List ((Int × Int) × Str)))) (fun _ => rfl) (by decide) (fun _ => rfl)) (ea_cons (tv_nonD (R := .av/-p-/)) (ea_cons (tv_list (ea_nil (R := .av/-p-/)) (fun r => ([] : (List (Int × Int)))) (fun _ => rfl) (by decide) (fun _ => rfl)) (ea_cons (tv_some (tv_t1 (R := .av/-p-/) C.toDx (b_listF C.toDx) (fun _ _ h => nomatch h) (tv_var (i := 6) C.toDx rfl rfl rfl) rfl B.n_list (by decide +kernel))) (ea_nil (R := .av))))))) (fun _ _ => (.cons (.int 0) (.cons .non (.cons (.int 6) (.cons .non .nil))))) (fun _ => rfl)) (Γ' := fun (asking_1167 : Asking) => [.val (enc (r.1 : Scr)), .val (enc (cell_here_999 : Int)), .val (enc (words_1004 : (List Str))), .val (enc (one_1011 : (Int × Int))), .val (enc (other_1022 : (Int × Int))), .val (enc (first_1033 : (Int × Int))), .val (enc (s_1133.1 : (List (T4 (Int × Int) (Int × Int) Str (Int × Int))))), .val (enc (deck_1134 : (List Str))), .own (.l ((s_1166.1 : List Str).map enc)), .any, .any, .val (enc (asking_1167 : Asking)), .any, .any, .any, .any, .any]) (fun _ => rfl) fun asking_1167 => (hl_set (i := 12) C trivial rfl rfl (tv_av (tv_dict1N (tv_t1 (R := .nw) C.toDx (b_listF C.toDx) (fun _ _ h => nomatch h) (tv_var (i := 7) C.toDx rfl rfl rfl) rfl B.n_list (by decide +kernel)))) (Γ' := fun (trays_1179 : (Dct Str (List Str))) => [.val (enc (r.1 : Scr)), .val (enc (cell_here_999 : Int)), .val (enc (words_1004 : (List Str))), .val (enc (one_1011 : (Int × Int))), .val (enc (other_1022 : (Int × Int))), .val (enc (first_1033 : (Int × Int))), .val (enc (s_1133.1 : (List (T4 (Int × Int) (Int × Int) Str (Int × Int))))), .val (enc (deck_1134 : (List Str))), .own (.l ((s_1166.1 : List Str).map enc)), .any, .any, .val (enc (asking_1167 : Asking)), .val (enc (trays_1179 : (Dct Str (List Str)))), .any, .any, .any, .any]) (fun _ => rfl) fun trays_1179 => (hl_set (i := 13) C trivial rfl rfl (tv_av (tv_call C.toDx F_chosen_deck (by decide) rfl (ea_cons (tv_any (tv_var (i := 11) C.toDx rfl rfl rfl)) (ea_cons (tv_any (tv_var (i := 12) C.toDx rfl rfl rfl)) (ea_nil (R := .top)))))) (Γ' := fun (found_1182 : (List Str)) => [.val (enc (r.1 : Scr)), .val (enc (cell_here_999 : Int)), .val (enc (words_1004 : (List Str))), .val (enc (one_1011 : (Int × Int))), .val (enc (other_1022 : (Int × Int))), .val (enc (first_1033 : (Int × Int))), .val (enc (s_1133.1 : (List (T4 (Int × Int) (Int × Int) Str (Int × Int))))), .val (enc (deck_1134 : (List Str))), .own (.l ((s_1166.1 : List Str).map enc)), .any, .any, .val (enc (asking_1167 : Asking)), .val (enc (trays_1179 : (Dct Str (List Str)))), .val (enc (found_1182 : (List Str))), .any, .any, .any]) (fun _ => rfl) fun found_1182 => (hl_guardC trivial (tb_of (to_or (tb_not (tb_val (tv_isi (R := .av/-p-/) (g := fun _ => true) (T := "list") C.toDx rfl B.n_isinstance rfl B.n_list (by decide +kernel) (by decide +kernel) (tv_var (i := 13) C.toDx rfl rfl rfl) (fun S H v d h => isi_list S H v d h)))) (to_or (tb_cmp (cmp_ne C.toDx (by decide)) (fun _ _ _ h => nomatch h) (tv_var (i := 13) C.toDx rfl rfl rfl) (tv_vO (i := 8) C.toDx rfl rfl rfl) rfl) (to_or1 (tb_cmp (cmp_neDct C.toDx (by decide)) calm_dne (tv_var (i := 12) C.toDx rfl rfl rfl) (tv_dict1N (tv_var (i := 7) C.toDx rfl rfl rfl)) rfl))))) (hl_ret trivial (tv_bl (R := .fr/-p-/))) (hl_set (i := 14) C trivial rfl rfl (tv_av (tv_call C.toDx F_chosen_deck (by decide) rfl (ea_cons (tv_any (tv_var (i := 11) C.toDx rfl rfl rfl)) (ea_cons (tv_any (tv_dict1N (tv_t1 (R := .nw) C.toDx (b_listF C.toDx) (fun _ _ h => nomatch h) (tv_var (i := 13) C.toDx rfl rfl rfl) rfl B.n_list (by decide +kernel)))) (ea_nil (R := .top)))))) (Γ' := fun (again_1196 : (List Str)) => [.val (enc (r.1 : Scr)), .val (enc (cell_here_999 : Int)), .val (enc (words_1004 : (List Str))), .val (enc (one_1011 : (Int × Int))), .val (enc (other_1022 : (Int × Int))), .val (enc (first_1033 : (Int × Int))), .val (enc (s_1133.1 : (List (T4 (Int × Int) (Int × Int) Str (Int × Int))))), .val (enc (deck_1134 : (List Str))), .own (.l ((s_1166.1 : List Str).map enc)), .any, .any, .val (enc (asking_1167 : Asking)), .val (enc (trays_1179 : (Dct Str (List Str)))), .val (enc (found_1182 : (List Str))), .val (enc (again_1196 : (List Str))), .any, .any]) (fun _ => rfl) fun again_1196 => (hl_ret trivial (tv_and (R := .fr/-p-/) (tv_isi (R := .fr/-p-/) (g := fun _ => true) (T := "list") C.toDx rfl B.n_isinstance rfl B.n_list (by decide +kernel) (by decide +kernel) (tv_var (i := 14) C.toDx rfl rfl rfl) (fun S H v d h => isi_list S H v d h)) (tv_and1 (tv_cmp (R := .fr/-p-/) (cmp_eq C.toDx (by decide)) (fun _ _ _ h => nomatch h) (tv_var (i := 14) C.toDx rfl rfl rfl) (tv_vO (i := 8) C.toDx rfl rfl rfl) rfl)))))))))))))) rfl rfl (by decide +kernel))))))))))

end CS
namespace CS
open Enc (enc)
open PySem PySem.Spec PyProof.Rows L2
/-! ### the law's def: it is called with a list that nobody changes -/
section
variable {G : Gv} {P : Program} {w : World} {K : PySem.W.Frag} {mg : Str → Option Value} {base : Heap} {f : Addr} {fd : FuncData} {ps : List Str} {k : Nat}
theorem hok_frz {H : Hp} {h : Heap} {a : Addr} {xs : List V} {o : Obj} (x : HOk P w H h) (ha : H a = some (.lst xs)) (ho : h.get? a = some o) : HOk P w (upd H a (.frz o (.lst xs))) h := fun b u e => by
  by_cases hb : b = a
  · subst hb
    rw [upd_same] at e
    cases e
    exact ⟨ho, x _ _ ha⟩
  · rw [upd_ne hb] at e
    refine (x b u e).stay (fun c v _ q => q) (fun c q => ?_) fun c ys q => ?_
    · rw [upd_ne (fun z => by rw [z, ha] at q; cases q)]; exact q
    · rw [upd_ne (fun z => by rw [z, ha] at q; cases q)]; exact q
/-- what the law's def is asked -/
def LawSp (G : Gv) (m : Scr × Unit → Res Bool) : Sp := fun vs H Q E => ∃ (a : Addr) (ns : List Int), vs = [.ref a] ∧ SqL G.K H a (ns.map V.int) ∧ G.tabs H ∧ m (⟨ns⟩, ()) = .ok true ∧ ∀ H', Q (.bl true) H'
theorem law_ok {m : Scr × Unit → Res Bool} {t : Scr × Unit → List Dt} (F : FnOk P w K mg base (L2.CX P w) k f fd ps (CtT false G (Rt t m))) (ht : ∀ r, t r = [.scr r.1.ns]) (hp : ps.length = 1) : FnOk P w K mg base (L2.CX P w) k f fd ps (LawSp G m) := by
  refine ⟨fun vs H Q E ⟨a, ns, e, _⟩ => by rw [e, hp]; rfl, fun A outer s H args us vs Q E hr e0 hb hv h => ?_⟩
  obtain ⟨a, ns, ev, hs, tb, hm, q⟩ := h
  subst ev
  -- from a heap in which it stands locked
  have core : ∀ H1 : Hp, HOk P w H1 s.heap → (∀ b, H b = none → H1 b = none) → (∀ b xs, H b = some (.tup xs) → H1 b = some (.tup xs)) → (∀ b o u, H b = some (.frz o u) → H1 b = some (.frz o u)) → (∀ b qs, H b = some (.tbl qs) → H1 b = some (.tbl qs)) → Fz G.K H1 a (ns.map V.int) → G.tabs H1 →
      codeAny (model P w) A (.call (.ref f) args) (CR (L2.CX P w) outer P w H s Q E) s := by
    intro H1 hk hn h2 h3 h4 hf ht1
    have c : CtT false G (Rt t m) [.ref a] H1 (fun v _ => v = .bl true) (fun _ _ _ => False) := by
      refine ⟨ht1, [.scr ns], (m (⟨ns⟩, ())).map enc, .cons (.scr hf) .nil, ⟨(⟨ns⟩, ()), (ht (⟨ns⟩, ())).symm, rfl⟩, ?_⟩
      rw [hm]
      exact fun v H' _ r => rp_bl r
    refine codeAny_mono (F.run A outer s H1 args us [.ref a] _ _ hr ⟨e0.frames, e0.mod, fun b o e => ⟨(e0.bs b o e).1, hn b (e0.bs b o e).2⟩, e0.bsz, e0.funs, fun b hb => hn b (e0.frf b hb), hk, e0.bare⟩ hb hv c) fun r s' hq => ?_
    cases r with
    | error e =>
      obtain ⟨_, _, _, _, _, _, _, _, _, _, _, _, no⟩ := hq
      exact no.elim
    | ok fl =>
      cases fl with
      | ret u =>
        obtain ⟨v, H', h1, hb2, un, hk2, r, ev⟩ := hq
        subst ev
        exact ⟨.bl true, H', h1, hb2, ⟨fun b o e n => un.keep b o e (hn b n), fun b o e n => un.slot b o e (hn b n), fun b o e n => un.free b o e (hn b n), un.there, fun b xs e => un.tups b xs (h2 b xs e), fun b o u e => un.frzs b o u (h3 b o u e), fun b qs e => un.tbls b qs (h4 b qs e)⟩, hk2, r, q H'⟩
      | next => exact hq.elim
      | brk => exact hq.elim
      | cont => exact hq.elim
  rcases hs with (hs | ⟨o, hs⟩) | hs
  · obtain ⟨_, its, n, _, ho⟩ := e0.hok a _ hs
    have ne : ∀ b u, H b = some u → u ≠ .lst (ns.map V.int) → b ≠ a := fun b u e n z => by
      rw [z, hs] at e
      exact n (Option.some.inj e).symm
    have up : ∀ {o0 : Obj} b u, H b = some u → u ≠ .lst (ns.map V.int) → upd H a (.frz o0 (.lst (ns.map V.int))) b = some u := fun b u e n => by rw [upd_ne (ne b u e n)]; exact e
    refine core _ (hok_frz e0.hok hs ho) (fun b e => by rw [upd_ne (fun z => by rw [z, hs] at e; cases e)]; exact e) (fun b xs e => up b _ e (fun z => by cases z)) (fun b o u e => up b _ e (fun z => by cases z)) (fun b qs e => up b _ e (fun z => by cases z)) (.inl ⟨_, upd_same⟩) ?_
    exact G.tabs_ok H _ (fun b o e t => up b o e (fun z => by rw [z] at t; exact t)) tb
  · exact core H e0.hok (fun _ e => e) (fun _ _ e => e) (fun _ _ _ e => e) (fun _ _ e => e) (.inl ⟨o, hs⟩) tb
  · exact core H e0.hok (fun _ e => e) (fun _ _ e => e) (fun _ _ _ e => e) (fun _ _ e => e) (.inr hs) tb
end
/-! ### the surroundings -/
theorem tabs_keep {T : List (Addr × Str)} (H H' : Hp) (k : ∀ b o, H b = some o → isTab o → H' b = some o) (t : LamX.Tabs T H) : LamX.Tabs T H' := fun p hp => by
  obtain ⟨ps, h1, h2, h3⟩ := t p hp
  refine ⟨ps, k _ _ h1 trivial, h2, fun pos cv hc => ?_⟩
  obtain ⟨c, e1, e2⟩ := h3 pos cv hc
  exact ⟨c, e1, k _ _ e2 (by unfold LamX.CodeO; trivial)⟩
def gvOf (K : PySem.W.Frag) (cl : Nat → Addr) (cv : Str → Value) (T : List (Addr × Str)) : Gv := ⟨K, cl, cv, LamX.Tabs T, fun H H' => tabs_keep H H'⟩
/-- the one def that makes a lambda -/
theorem lt_of {P : Program} {w : World} {K : PySem.W.Frag} {mg : Str → Option Value} {base : Heap} {cl : Nat → Addr} {cv : Str → Value} {c T : Addr} {N : List Str} {qual lq : Str} {sc : Scope} {fa : Addr} {cdv : Value} {A : Around} {outer : List Env} {s : Shared} {H : Hp} {E : XK} (TB : LamX.TabB base mg c T) (hc : cdv = .ref c)
    (hq : (envOfC qual sc s.heap.objs.size fa cdv).qual ++ "<lambda>" = lq) : Lt (gvOf K cl cv [(T, lq)]) (cxOf (L2.CX P w) P w K mg base N qual sc fa cdv A outer s H E) :=
  ⟨[(T, lq)], c, T, fun _ => Iff.rfl, TB, hc, by rw [← hq]; exact List.mem_singleton.mpr rfl, fun x hx _ => by rw [List.mem_singleton.mp hx]; exact hq.symm⟩
theorem code_eq {K : PySem.W.Frag} {p : Str × Option Str} {qual : Str} {cdv : Value} (h : CodeAt K (He.fAd K p) qual cdv) : cdv = .ref (He.codeOf K p) := by
  obtain ⟨oc, od, fd, osl, lk, e, hi⟩ := h
  obtain ⟨c, ec⟩ := He.codeIn_ref hi
  rw [He.codeOf_eq lk (e.trans ec)]
  exact ec
end CS
namespace CS
open Enc (enc)
open PySem PySem.Spec PyProof.Rows L2
theorem W_columns_of {P : Program} {w : World} {K : PySem.W.Frag} {mg : Str → Option Value} {base : Heap} {G : Gv} (hG : K = G.K) (B : Bn G K mg) (D : ∃ fd, FunD K "columns_of" "columns_of" (defArgs (top 17)) (defBody (top 17)) (defScope (top 17)) [] [] (He.fAd K ("columns_of", none)) fd) (hm : mg "columns_of" = some (.ref (He.fAd K ("columns_of", none)))) : Fc G P w K mg base false "columns_of" (Rt t_columns_of m_columns_of) [] 1 := by
  obtain ⟨fd, F⟩ := D
  exact fc_of (fn_HL (S := Unit) (N := N_columns_of) (ps := P_columns_of) (T := false) (t := t_columns_of) (g := m_columns_of) (M := b_columns_of) (en := fun _ => .err) F hG ⟨rfl, rfl, rfl, by decide +kernel, rfl, by decide +kernel, by decide +kernel⟩ (fun _ => rfl) (fun _ => rfl) (fun _ _ h => nomatch h) (fun _ _ h => nomatch h) (fun cdv hcd A outer s H E C r => h_columns_of B C r)) hm F.kp ⟨[], .nil, (F.bindsN fun _ _ _ _ _ _ us hl => match us, hl with | [_], _ => rfl)⟩
theorem W_are_apart {P : Program} {w : World} {K : PySem.W.Frag} {mg : Str → Option Value} {base : Heap} {G : Gv} (hG : K = G.K) (B : Bn G K mg) (D : ∃ fd, FunD K "are_apart" "are_apart" (defArgs (top 18)) (defBody (top 18)) (defScope (top 18)) [] [] (He.fAd K ("are_apart", none)) fd) (hm : mg "are_apart" = some (.ref (He.fAd K ("are_apart", none)))) : Fc G P w K mg base false "are_apart" (Rt t_are_apart m_are_apart) [] 1 := by
  obtain ⟨fd, F⟩ := D
  exact fc_of (fn_HL (S := Unit) (N := N_are_apart) (ps := P_are_apart) (T := false) (t := t_are_apart) (g := m_are_apart) (M := b_are_apart) (en := fun _ => .err) F hG ⟨rfl, rfl, rfl, by decide +kernel, rfl, by decide +kernel, by decide +kernel⟩ (fun _ => rfl) (fun _ => rfl) (fun _ _ h => nomatch h) (fun _ _ h => nomatch h) (fun cdv hcd A outer s H E C r => h_are_apart B C r)) hm F.kp ⟨[], .nil, (F.bindsN fun _ _ _ _ _ _ us hl => match us, hl with | [_, _], _ => rfl)⟩
theorem W_part_of {P : Program} {w : World} {K : PySem.W.Frag} {mg : Str → Option Value} {base : Heap} {G : Gv} (hG : K = G.K) (B : Bn G K mg) (D : ∃ fd, FunD K "part_of" "part_of" (defArgs (top 19)) (defBody (top 19)) (defScope (top 19)) [] [] (He.fAd K ("part_of", none)) fd) (hm : mg "part_of" = some (.ref (He.fAd K ("part_of", none)))) : Fc G P w K mg base false "part_of" (Rt t_part_of m_part_of) [] 1 := by
  obtain ⟨fd, F⟩ := D
  exact fc_of (fn_HL (S := Unit) (N := N_part_of) (ps := P_part_of) (T := false) (t := t_part_of) (g := m_part_of) (M := b_part_of) (en := fun _ => .err) F hG ⟨rfl, rfl, rfl, by decide +kernel, rfl, by decide +kernel, by decide +kernel⟩ (fun _ => rfl) (fun _ => rfl) (fun _ _ h => nomatch h) (fun _ _ h => nomatch h) (fun cdv hcd A outer s H E C r => h_part_of B C r)) hm F.kp ⟨[], .nil, (F.bindsN fun _ _ _ _ _ _ us hl => match us, hl with | [_, _], _ => rfl)⟩
theorem W_is_name {P : Program} {w : World} {K : PySem.W.Frag} {mg : Str → Option Value} {base : Heap} {G : Gv} (hG : K = G.K) (B : Bn G K mg) (D : ∃ fd, FunD K "is_name" "is_name" (defArgs (top 33)) (defBody (top 33)) (defScope (top 33)) [] [] (He.fAd K ("is_name", none)) fd) (hm : mg "is_name" = some (.ref (He.fAd K ("is_name", none)))) : Fc G P w K mg base false "is_name" (Rt t_is_name m_is_name) [] 1 := by
  obtain ⟨fd, F⟩ := D
  exact fc_of (fn_HL (S := Unit) (N := N_is_name) (ps := P_is_name) (T := false) (t := t_is_name) (g := m_is_name) (M := b_is_name) (en := fun _ => .err) F hG ⟨rfl, rfl, rfl, by decide +kernel, rfl, by decide +kernel, by decide +kernel⟩ (fun _ => rfl) (fun _ => rfl) (fun _ _ h => nomatch h) (fun _ _ h => nomatch h) (fun cdv hcd A outer s H E C r => h_is_name B C r)) hm F.kp ⟨[], .nil, (F.bindsN fun _ _ _ _ _ _ us hl => match us, hl with | [_], _ => rfl)⟩
theorem W_is_field {P : Program} {w : World} {K : PySem.W.Frag} {mg : Str → Option Value} {base : Heap} {G : Gv} (hG : K = G.K) (B : Bn G K mg) (D : ∃ fd, FunD K "is_field" "is_field" (defArgs (top 34)) (defBody (top 34)) (defScope (top 34)) [] [] (He.fAd K ("is_field", none)) fd) (hm : mg "is_field" = some (.ref (He.fAd K ("is_field", none)))) : Fc G P w K mg base false "is_field" (Rt t_is_field m_is_field) [] 1 := by
  obtain ⟨fd, F⟩ := D
  exact fc_of (fn_HL (S := Unit) (N := N_is_field) (ps := P_is_field) (T := false) (t := t_is_field) (g := m_is_field) (M := b_is_field) (en := fun _ => .err) F hG ⟨rfl, rfl, rfl, by decide +kernel, rfl, by decide +kernel, by decide +kernel⟩ (fun _ => rfl) (fun _ => rfl) (fun _ _ h => nomatch h) (fun _ _ h => nomatch h) (fun cdv hcd A outer s H E C r => h_is_field B C r)) hm F.kp ⟨[], .nil, (F.bindsN fun _ _ _ _ _ _ us hl => match us, hl with | [_], _ => rfl)⟩
theorem W_is_card {P : Program} {w : World} {K : PySem.W.Frag} {mg : Str → Option Value} {base : Heap} {G : Gv} (hG : K = G.K) (B : Bn G K mg) (D : ∃ fd, FunD K "is_card" "is_card" (defArgs (top 11)) (defBody (top 11)) (defScope (top 11)) [] [] (He.fAd K ("is_card", none)) fd) (hm : mg "is_card" = some (.ref (He.fAd K ("is_card", none)))) : Fc G P w K mg base false "is_card" (Rt t_is_card m_is_card) [] 1 := by
  obtain ⟨fd, F⟩ := D
  exact fc_of (fn_HL (S := Unit) (N := N_is_card) (ps := P_is_card) (T := false) (t := t_is_card) (g := m_is_card) (M := b_is_card) (en := fun _ => .err) F hG ⟨rfl, rfl, rfl, by decide +kernel, rfl, by decide +kernel, by decide +kernel⟩ (fun _ => rfl) (fun _ => rfl) (fun _ _ h => nomatch h) (fun _ _ h => nomatch h) (fun cdv hcd A outer s H E C r => h_is_card B C r)) hm F.kp ⟨[], .nil, (F.bindsN fun _ _ _ _ _ _ us hl => match us, hl with | [_], _ => rfl)⟩
theorem W_number_of {P : Program} {w : World} {K : PySem.W.Frag} {mg : Str → Option Value} {base : Heap} {G : Gv} (hG : K = G.K) (B : Bn G K mg) (D : ∃ fd, FunD K "number_of" "number_of" (defArgs (top 20)) (defBody (top 20)) (defScope (top 20)) [] [] (He.fAd K ("number_of", none)) fd) (hm : mg "number_of" = some (.ref (He.fAd K ("number_of", none)))) (F_part_of : Fc G P w K mg base false "part_of" (Rt t_part_of m_part_of) [] 1) : Fc G P w K mg base false "number_of" (Rt t_number_of m_number_of) [] 2 := by
  obtain ⟨fd, F⟩ := D
  exact fc_of (fn_HL (S := Unit) (N := N_number_of) (ps := P_number_of) (T := false) (t := t_number_of) (g := m_number_of) (M := b_number_of) (en := fun _ => .err) F hG ⟨rfl, rfl, rfl, by decide +kernel, rfl, by decide +kernel, by decide +kernel⟩ (fun _ => rfl) (fun _ => rfl) (fun _ _ h => nomatch h) (fun _ _ h => nomatch h) (fun cdv hcd A outer s H E C r => h_number_of B C F_part_of r)) hm F.kp ⟨[], .nil, (F.bindsN fun _ _ _ _ _ _ us hl => match us, hl with | [_, _], _ => rfl)⟩
theorem W_punch_in {P : Program} {w : World} {K : PySem.W.Frag} {mg : Str → Option Value} {base : Heap} {G : Gv} (hG : K = G.K) (B : Bn G K mg) (D : ∃ fd, FunD K "punch_in" "punch_in" (defArgs (top 21)) (defBody (top 21)) (defScope (top 21)) [] [] (He.fAd K ("punch_in", none)) fd) (hm : mg "punch_in" = some (.ref (He.fAd K ("punch_in", none)))) : Fc G P w K mg base false "punch_in" (Rt t_punch_in m_punch_in) [] 1 := by
  obtain ⟨fd, F⟩ := D
  exact fc_of (fn_HL (S := Unit) (N := N_punch_in) (ps := P_punch_in) (T := false) (t := t_punch_in) (g := m_punch_in) (M := b_punch_in) (en := fun _ => .err) F hG ⟨rfl, rfl, rfl, by decide +kernel, rfl, by decide +kernel, by decide +kernel⟩ (fun _ => rfl) (fun _ => rfl) (fun _ _ h => nomatch h) (fun _ _ h => nomatch h) (fun cdv hcd A outer s H E C r => h_punch_in B C r)) hm F.kp ⟨[], .nil, (F.bindsN fun _ _ _ _ _ _ us hl => match us, hl with | [_, _, _], _ => rfl)⟩
theorem W_work_card {P : Program} {w : World} {K : PySem.W.Frag} {mg : Str → Option Value} {base : Heap} {G : Gv} (hG : K = G.K) (B : Bn G K mg) (D : ∃ fd, FunD K "work_card" "work_card" (defArgs (top 23)) (defBody (top 23)) (defScope (top 23)) [] [] (He.fAd K ("work_card", none)) fd) (hm : mg "work_card" = some (.ref (He.fAd K ("work_card", none)))) (F_number_of : Fc G P w K mg base false "number_of" (Rt t_number_of m_number_of) [] 2) (F_punch_in : Fc G P w K mg base false "punch_in" (Rt t_punch_in m_punch_in) [] 1) : Fc G P w K mg base false "work_card" (Rt t_work_card m_work_card) [] 3 := by
  obtain ⟨fd, F⟩ := D
  exact fc_of (fn_HL (S := Unit) (N := N_work_card) (ps := P_work_card) (T := false) (t := t_work_card) (g := m_work_card) (M := b_work_card) (en := fun _ => .err) F hG ⟨rfl, rfl, rfl, by decide +kernel, rfl, by decide +kernel, by decide +kernel⟩ (fun _ => rfl) (fun _ => rfl) (fun _ _ h => nomatch h) (fun _ _ h => nomatch h) (fun cdv hcd A outer s H E C r => h_work_card B C F_number_of F_punch_in r)) hm F.kp ⟨[], .nil, (F.bindsN fun _ _ _ _ _ _ us hl => match us, hl with | [_, _], _ => rfl)⟩
theorem W_is_picked {P : Program} {w : World} {K : PySem.W.Frag} {mg : Str → Option Value} {base : Heap} {G : Gv} (hG : K = G.K) (B : Bn G K mg) (D : ∃ fd, FunD K "is_picked" "is_picked" (defArgs (top 27)) (defBody (top 27)) (defScope (top 27)) [] [] (He.fAd K ("is_picked", none)) fd) (hm : mg "is_picked" = some (.ref (He.fAd K ("is_picked", none)))) (F_part_of : Fc G P w K mg base false "part_of" (Rt t_part_of m_part_of) [] 1) : Fc G P w K mg base false "is_picked" (Rt t_is_picked m_is_picked) [] 2 := by
  obtain ⟨fd, F⟩ := D
  exact fc_of (fn_HL (S := Unit) (N := N_is_picked) (ps := P_is_picked) (T := false) (t := t_is_picked) (g := m_is_picked) (M := b_is_picked) (en := fun _ => .err) F hG ⟨rfl, rfl, rfl, by decide +kernel, rfl, by decide +kernel, by decide +kernel⟩ (fun _ => rfl) (fun _ => rfl) (fun _ _ h => nomatch h) (fun _ _ h => nomatch h) (fun cdv hcd A outer s H E C r => h_is_picked B C F_part_of r)) hm F.kp ⟨[], .nil, (F.bindsN fun _ _ _ _ _ _ us hl => match us, hl with | [_, _], _ => rfl)⟩
theorem W_first_of_each {P : Program} {w : World} {K : PySem.W.Frag} {mg : Str → Option Value} {base : Heap} {G : Gv} (hG : K = G.K) (B : Bn G K mg) (D : ∃ fd, FunD K "first_of_each" "first_of_each" (defArgs (top 28)) (defBody (top 28)) (defScope (top 28)) [] [] (He.fAd K ("first_of_each", none)) fd) (hm : mg "first_of_each" = some (.ref (He.fAd K ("first_of_each", none)))) (F_part_of : Fc G P w K mg base false "part_of" (Rt t_part_of m_part_of) [] 1) : Fc G P w K mg base false "first_of_each" (Rt t_first_of_each m_first_of_each) [] 2 := by
  obtain ⟨fd, F⟩ := D
  exact fc_of (fn_HL (S := Unit) (N := N_first_of_each) (ps := P_first_of_each) (T := false) (t := t_first_of_each) (g := m_first_of_each) (M := b_first_of_each) (en := fun _ => .err) F hG ⟨rfl, rfl, rfl, by decide +kernel, rfl, by decide +kernel, by decide +kernel⟩ (fun _ => rfl) (fun _ => rfl) (fun _ _ h => nomatch h) (fun _ _ h => nomatch h) (fun cdv hcd A outer s H E C r => h_first_of_each B C F_part_of r)) hm F.kp ⟨[], .nil, (F.bindsN fun _ _ _ _ _ _ us hl => match us, hl with | [_, _], _ => rfl)⟩
theorem W_rank_of {P : Program} {w : World} {K : PySem.W.Frag} {mg : Str → Option Value} {base : Heap} {G : Gv} (hG : K = G.K) (B : Bn G K mg) (D : ∃ fd, FunD K "rank_of" "rank_of" (defArgs (top 10)) (defBody (top 10)) (defScope (top 10)) [] [] (He.fAd K ("rank_of", none)) fd) (hm : mg "rank_of" = some (.ref (He.fAd K ("rank_of", none)))) : Fc G P w K mg base false "rank_of" (Rt t_rank_of m_rank_of) [] 1 := by
  obtain ⟨fd, F⟩ := D
  exact fc_of (fn_HL (S := Unit) (N := N_rank_of) (ps := P_rank_of) (T := false) (t := t_rank_of) (g := m_rank_of) (M := b_rank_of) (en := fun _ => .err) F hG ⟨rfl, rfl, rfl, by decide +kernel, rfl, by decide +kernel, by decide +kernel⟩ (fun _ => rfl) (fun _ => rfl) (fun _ _ h => nomatch h) (fun _ _ h => nomatch h) (fun cdv hcd A outer s H E C r => h_rank_of B C r)) hm F.kp ⟨[], .nil, (F.bindsN fun _ _ _ _ _ _ us hl => match us, hl with | [_], _ => rfl)⟩
theorem W_card_of {P : Program} {w : World} {K : PySem.W.Frag} {mg : Str → Option Value} {base : Heap} {G : Gv} (hG : K = G.K) (B : Bn G K mg) (D : ∃ fd, FunD K "card_of" "card_of" (defArgs (top 12)) (defBody (top 12)) (defScope (top 12)) [] [] (He.fAd K ("card_of", none)) fd) (hm : mg "card_of" = some (.ref (He.fAd K ("card_of", none)))) (F_is_card : Fc G P w K mg base false "is_card" (Rt t_is_card m_is_card) [] 1) : Fc G P w K mg base false "card_of" (Rt t_card_of m_card_of) [] 2 := by
  obtain ⟨fd, F⟩ := D
  exact fc_of (fn_HL (S := Unit) (N := N_card_of) (ps := P_card_of) (T := false) (t := t_card_of) (g := m_card_of) (M := b_card_of) (en := fun _ => .err) F hG ⟨rfl, rfl, rfl, by decide +kernel, rfl, by decide +kernel, by decide +kernel⟩ (fun _ => rfl) (fun _ => rfl) (fun _ _ h => nomatch h) (fun _ _ h => nomatch h) (fun cdv hcd A outer s H E C r => h_card_of B C F_is_card r)) hm F.kp ⟨[], .nil, (F.bindsN fun _ _ _ _ _ _ us hl => match us, hl with | [_], _ => rfl)⟩
theorem W_make_board {P : Program} {w : World} {K : PySem.W.Frag} {mg : Str → Option Value} {base : Heap} {G : Gv} (hG : K = G.K) (B : Bn G K mg) (D : ∃ fd, FunD K "make_board" "make_board" (defArgs (top 14)) (defBody (top 14)) (defScope (top 14)) [] [] (He.fAd K ("make_board", none)) fd) (hm : mg "make_board" = some (.ref (He.fAd K ("make_board", none)))) : Fc G P w K mg base false "make_board" (Rt t_make_board m_make_board) [] 1 := by
  obtain ⟨fd, F⟩ := D
  exact fc_of (fn_HL (S := Unit) (N := N_make_board) (ps := P_make_board) (T := false) (t := t_make_board) (g := m_make_board) (M := b_make_board) (en := fun _ => .err) F hG ⟨rfl, rfl, rfl, by decide +kernel, rfl, by decide +kernel, by decide +kernel⟩ (fun _ => rfl) (fun _ => rfl) (fun _ _ h => nomatch h) (fun _ _ h => nomatch h) (fun cdv hcd A outer s H E C r => h_make_board B C r)) hm F.kp ⟨[], .nil, (F.bindsN fun _ _ _ _ _ _ us hl => match us, hl with | [_], _ => rfl)⟩
theorem W_is_wide {P : Program} {w : World} {K : PySem.W.Frag} {mg : Str → Option Value} {base : Heap} {G : Gv} (hG : K = G.K) (B : Bn G K mg) (D : ∃ fd, FunD K "is_wide" "is_wide" (defArgs (top 35)) (defBody (top 35)) (defScope (top 35)) [] [] (He.fAd K ("is_wide", none)) fd) (hm : mg "is_wide" = some (.ref (He.fAd K ("is_wide", none)))) (F_card_of : Fc G P w K mg base false "card_of" (Rt t_card_of m_card_of) [] 2) (F_columns_of : Fc G P w K mg base false "columns_of" (Rt t_columns_of m_columns_of) [] 1) : Fc G P w K mg base false "is_wide" (Rt t_is_wide m_is_wide) [] 3 := by
  obtain ⟨fd, F⟩ := D
  exact fc_of (fn_HL (S := Unit) (N := N_is_wide) (ps := P_is_wide) (T := false) (t := t_is_wide) (g := m_is_wide) (M := b_is_wide) (en := fun _ => .err) F hG ⟨rfl, rfl, rfl, by decide +kernel, rfl, by decide +kernel, by decide +kernel⟩ (fun _ => rfl) (fun _ => rfl) (fun _ _ h => nomatch h) (fun _ _ h => nomatch h) (fun cdv hcd A outer s H E C r => h_is_wide B C F_card_of F_columns_of r)) hm F.kp ⟨[], .nil, (F.bindsN fun _ _ _ _ _ _ us hl => match us, hl with | [_, _], _ => rfl)⟩
theorem W_is_board {P : Program} {w : World} {K : PySem.W.Frag} {mg : Str → Option Value} {base : Heap} {G : Gv} (hG : K = G.K) (B : Bn G K mg) (D : ∃ fd, FunD K "is_board" "is_board" (defArgs (top 36)) (defBody (top 36)) (defScope (top 36)) [] [] (He.fAd K ("is_board", none)) fd) (hm : mg "is_board" = some (.ref (He.fAd K ("is_board", none)))) (F_make_board : Fc G P w K mg base false "make_board" (Rt t_make_board m_make_board) [] 1) : Fc G P w K mg base false "is_board" (Rt t_is_board m_is_board) [] 2 := by
  obtain ⟨fd, F⟩ := D
  exact fc_of (fn_HL (S := Unit) (N := N_is_board) (ps := P_is_board) (T := false) (t := t_is_board) (g := m_is_board) (M := b_is_board) (en := fun _ => .err) F hG ⟨rfl, rfl, rfl, by decide +kernel, rfl, by decide +kernel, by decide +kernel⟩ (fun _ => rfl) (fun _ => rfl) (fun _ _ h => nomatch h) (fun _ _ h => nomatch h) (fun cdv hcd A outer s H E C r => h_is_board B C F_make_board r)) hm F.kp ⟨[], .nil, (F.bindsN fun _ _ _ _ _ _ us hl => match us, hl with | [_], _ => rfl)⟩
theorem W_are_picks {P : Program} {w : World} {K : PySem.W.Frag} {mg : Str → Option Value} {base : Heap} {G : Gv} (hG : K = G.K) (B : Bn G K mg) (D : ∃ fd, FunD K "are_picks" "are_picks" (defArgs (top 37)) (defBody (top 37)) (defScope (top 37)) [] [] (He.fAd K ("are_picks", none)) fd) (hm : mg "are_picks" = some (.ref (He.fAd K ("are_picks", none)))) (F_is_field : Fc G P w K mg base false "is_field" (Rt t_is_field m_is_field) [] 1) (F_is_wide : Fc G P w K mg base false "is_wide" (Rt t_is_wide m_is_wide) [] 3) (F_columns_of : Fc G P w K mg base false "columns_of" (Rt t_columns_of m_columns_of) [] 1) : Fc G P w K mg base false "are_picks" (Rt t_are_picks m_are_picks) [] 4 := by
  obtain ⟨fd, F⟩ := D
  exact fc_of (fn_HL (S := Unit) (N := N_are_picks) (ps := P_are_picks) (T := false) (t := t_are_picks) (g := m_are_picks) (M := b_are_picks) (en := fun _ => .err) F hG ⟨rfl, rfl, rfl, by decide +kernel, rfl, by decide +kernel, by decide +kernel⟩ (fun _ => rfl) (fun _ => rfl) (fun _ _ h => nomatch h) (fun _ _ h => nomatch h) (fun cdv hcd A outer s H E C r => h_are_picks B C F_is_field F_is_wide F_columns_of r)) hm F.kp ⟨[], .nil, (F.bindsN fun _ _ _ _ _ _ us hl => match us, hl with | [_], _ => rfl)⟩
theorem W_is_middle {P : Program} {w : World} {K : PySem.W.Frag} {mg : Str → Option Value} {base : Heap} {G : Gv} (hG : K = G.K) (B : Bn G K mg) (D : ∃ fd, FunD K "is_middle" "is_middle" (defArgs (top 38)) (defBody (top 38)) (defScope (top 38)) [] [] (He.fAd K ("is_middle", none)) fd) (hm : mg "is_middle" = some (.ref (He.fAd K ("is_middle", none)))) (F_is_field : Fc G P w K mg base false "is_field" (Rt t_is_field m_is_field) [] 1) (F_is_name : Fc G P w K mg base false "is_name" (Rt t_is_name m_is_name) [] 1) : Fc G P w K mg base false "is_middle" (Rt t_is_middle m_is_middle) [] 2 := by
  obtain ⟨fd, F⟩ := D
  exact fc_of (fn_HL (S := Unit) (N := N_is_middle) (ps := P_is_middle) (T := false) (t := t_is_middle) (g := m_is_middle) (M := b_is_middle) (en := fun _ => .err) F hG ⟨rfl, rfl, rfl, by decide +kernel, rfl, by decide +kernel, by decide +kernel⟩ (fun _ => rfl) (fun _ => rfl) (fun _ _ h => nomatch h) (fun _ _ h => nomatch h) (fun cdv hcd A outer s H E C r => h_is_middle B C F_is_field F_is_name r)) hm F.kp ⟨[], .nil, (F.bindsN fun _ _ _ _ _ _ us hl => match us, hl with | [_, _], _ => rfl)⟩
theorem W_main_field {P : Program} {w : World} {K : PySem.W.Frag} {mg : Str → Option Value} {base : Heap} {G : Gv} (hG : K = G.K) (B : Bn G K mg) (D : ∃ fd, FunD K "main_field" "main_field" (defArgs (top 39)) (defBody (top 39)) (defScope (top 39)) [] [] (He.fAd K ("main_field", none)) fd) (hm : mg "main_field" = some (.ref (He.fAd K ("main_field", none)))) : Fc G P w K mg base false "main_field" (Rt t_main_field m_main_field) [] 1 := by
  obtain ⟨fd, F⟩ := D
  exact fc_of (fn_HL (S := Unit) (N := N_main_field) (ps := P_main_field) (T := false) (t := t_main_field) (g := m_main_field) (M := b_main_field) (en := fun _ => .err) F hG ⟨rfl, rfl, rfl, by decide +kernel, rfl, by decide +kernel, by decide +kernel⟩ (fun _ => rfl) (fun _ => rfl) (fun _ _ h => nomatch h) (fun _ _ h => nomatch h) (fun cdv hcd A outer s H E C r => h_main_field B C r)) hm F.kp ⟨[], .nil, (F.bindsN fun _ _ _ _ _ _ us hl => match us, hl with | [_], _ => rfl)⟩
theorem W_are_works {P : Program} {w : World} {K : PySem.W.Frag} {mg : Str → Option Value} {base : Heap} {G : Gv} (hG : K = G.K) (B : Bn G K mg) (D : ∃ fd, FunD K "are_works" "are_works" (defArgs (top 40)) (defBody (top 40)) (defScope (top 40)) [] [] (He.fAd K ("are_works", none)) fd) (hm : mg "are_works" = some (.ref (He.fAd K ("are_works", none)))) (F_is_field : Fc G P w K mg base false "is_field" (Rt t_is_field m_is_field) [] 1) (F_are_apart : Fc G P w K mg base false "are_apart" (Rt t_are_apart m_are_apart) [] 1) : Fc G P w K mg base false "are_works" (Rt t_are_works m_are_works) [] 2 := by
  obtain ⟨fd, F⟩ := D
  exact fc_of (fn_HL (S := Unit) (N := N_are_works) (ps := P_are_works) (T := false) (t := t_are_works) (g := m_are_works) (M := b_are_works) (en := fun _ => .err) F hG ⟨rfl, rfl, rfl, by decide +kernel, rfl, by decide +kernel, by decide +kernel⟩ (fun _ => rfl) (fun _ => rfl) (fun _ _ h => nomatch h) (fun _ _ h => nomatch h) (fun cdv hcd A outer s H E C r => h_are_works B C F_is_field F_are_apart r)) hm F.kp ⟨[], .nil, (F.bindsN fun _ _ _ _ _ _ us hl => match us, hl with | [_, _], _ => rfl)⟩
theorem W_Asking_is_fit {P : Program} {w : World} {K : PySem.W.Frag} {mg : Str → Option Value} {base : Heap} {G : Gv} (hG : K = G.K) (B : Bn G K mg) (D : ∃ fd, FunD K "is_fit" "Asking.is_fit" (defArgs (inClass (top 41) 1)) (defBody (inClass (top 41) 1)) (defScope (inClass (top 41) 1)) [] [] (He.fAd K ("Asking", some "is_fit")) fd) (hM : Meth K (G.cl 0) "is_fit" (He.fAd K ("Asking", some "is_fit"))) (F_is_name : Fc G P w K mg base false "is_name" (Rt t_is_name m_is_name) [] 1) (F_are_picks : Fc G P w K mg base false "are_picks" (Rt t_are_picks m_are_picks) [] 4) (F_is_middle : Fc G P w K mg base false "is_middle" (Rt t_is_middle m_is_middle) [] 2) (F_is_field : Fc G P w K mg base false "is_field" (Rt t_is_field m_is_field) [] 1) (F_is_board : Fc G P w K mg base false "is_board" (Rt t_is_board m_is_board) [] 2) (F_main_field : Fc G P w K mg base false "main_field" (Rt t_main_field m_main_field) [] 1) (F_are_works : Fc G P w K mg base false "are_works" (Rt t_are_works m_are_works) [] 2) : Fm G P w K mg base false 0 "is_fit" (Rt (fun x : Asking => [enc x]) (fun x => m_Asking_is_fit (x, ()))) [] 5 := by
  obtain ⟨fd, F⟩ := D
  exact ⟨_, fd, P_Asking_is_fit, [], FnOk.imp (fn_HL (S := Unit) (N := N_Asking_is_fit) (ps := P_Asking_is_fit) (T := false) (t := t_Asking_is_fit) (g := m_Asking_is_fit) (M := b_Asking_is_fit) (en := fun _ => .err) F hG ⟨rfl, rfl, rfl, by decide +kernel, rfl, by decide +kernel, by decide +kernel⟩ (fun _ => rfl) (fun _ => rfl) (fun _ _ h => nomatch h) (fun _ _ h => nomatch h) (fun cdv hcd A outer s H E C r => h_Asking_is_fit B C F_is_name F_are_picks F_is_middle F_is_field F_is_board F_main_field F_are_works r)) (fun vs H Q E ⟨h1, ds, m, h2, ⟨y, e1, e2⟩, h3⟩ => ⟨h1, ds, m, h2, ⟨(y, ()), e1, e2⟩, h3⟩), hM, B.cls_Asking, (F.bindsN fun _ _ _ _ _ _ us hl => match us, hl with | [_], _ => rfl), .nil⟩
theorem O_AskingU_initU {P : Program} {w : World} {K : PySem.W.Frag} {mg : Str → Option Value} {base : Heap} {G : Gv} (hG : K = G.K) (B : Bn G K mg) (D : ∃ fd, FunD K "__init__" "Asking.__init__" (defArgs (inClass (top 41) 0)) (defBody (inClass (top 41) 0)) (defScope (inClass (top 41) 0)) [.non, .int 0, .non, .int 6, .non] [] (He.fAd K ("Asking", some "__init__")) fd) (F_Asking_is_fit : Fm G P w K mg base false 0 "is_fit" (Rt (fun x : Asking => [enc x]) (fun x => m_Asking_is_fit (x, ()))) [] 5) : ∃ fd, FunD K "__init__" "Asking.__init__" (defArgs (inClass (top 41) 0)) (defBody (inClass (top 41) 0)) (defScope (inClass (top 41) 0)) [.non, .int 0, .non, .int 6, .non] [] (He.fAd K ("Asking", some "__init__")) fd ∧ FnOk P w K mg base (L2.CX P w) 6 (He.fAd K ("Asking", some "__init__")) fd P_AskingU_initU (CtI G 0 (RtI t_AskingU_initU fun r => (m_AskingU_initU r).map flds_Asking)) := by
  obtain ⟨fd, F⟩ := D
  exact ⟨fd, F, (init_HL (c := 0) (S := Asking) (N := N_AskingU_initU) (ps := P_AskingU_initU) (t := t_AskingU_initU) (g := fun r => (m_AskingU_initU r).map flds_Asking) (M := b_AskingU_initU) (fs := flds_Asking) F hG ⟨rfl, rfl, rfl, by decide +kernel, rfl, by decide +kernel, by decide +kernel⟩ (fun _ => rfl) (fun r => by show Res.map _ ((b_AskingU_initU r).bind Fl.obj) = _; cases b_AskingU_initU r with
    | ok f => cases f <;> rfl
    | exc e => rfl
    | err => rfl) (fun _ => rfl) (fun cdv hcd A outer s H E C r => h_AskingU_initU B C F_Asking_is_fit r))⟩
theorem M_Asking_5 {P : Program} {w : World} {K : PySem.W.Frag} {mg : Str → Option Value} {base : Heap} {G : Gv} (hO : ∃ fd, FunD K "__init__" "Asking.__init__" (defArgs (inClass (top 41) 0)) (defBody (inClass (top 41) 0)) (defScope (inClass (top 41) 0)) [.non, .int 0, .non, .int 6, .non] [] (He.fAd K ("Asking", some "__init__")) fd ∧ FnOk P w K mg base (L2.CX P w) 6 (He.fAd K ("Asking", some "__init__")) fd P_AskingU_initU (CtI G 0 (RtI t_AskingU_initU fun r => (m_AskingU_initU r).map flds_Asking))) (hM : Mk K (G.cl 0) (He.fAd K ("Asking", some "__init__"))) (hm : mg "Asking" = some (.ref (G.cl 0))) : Fk G P w K mg base 0 "Asking" (RtI (fun r => t_Asking_5 r ++ dd_Asking_5) (fun r => (mk_Asking_5 r).map flds_Asking)) dv_Asking_5 6 := by
  obtain ⟨fd, F, ok⟩ := hO
  obtain ⟨ds, hv, hb⟩ := F.binds1 (ps := P_AskingU_initU) 6 1 (by simp) rfl fun T kV doc pm an cdv ct us its h1 h2 => match us, its, h1, h2 with | [_, _, _, _, _, _], [_, _, _, _, _], _, _ => ⟨_, rfl, rfl⟩
  exact ⟨_, fd, P_AskingU_initU, ds, FnOk.imp ok (fun vs H Q E ⟨a, dx, rest, h1, h2, h3, S, ds, m, h4, h5, ⟨y, e1, e2⟩, h6⟩ => ⟨a, dx, rest, h1, h2, h3, S, ds, m, h4, h5, ⟨cv_Asking_5 y, e1, e2⟩, h6⟩), hM, hm, hb, hv⟩
theorem W_deck_in {P : Program} {w : World} {K : PySem.W.Frag} {mg : Str → Option Value} {base : Heap} {G : Gv} (hG : K = G.K) (B : Bn G K mg) (D : ∃ fd, FunD K "deck_in" "deck_in" (defArgs (top 25)) (defBody (top 25)) (defScope (top 25)) [] [] (He.fAd K ("deck_in", none)) fd) (hm : mg "deck_in" = some (.ref (He.fAd K ("deck_in", none)))) : Fc G P w K mg base false "deck_in" (Rt t_deck_in m_deck_in) [] 1 := by
  obtain ⟨fd, F⟩ := D
  exact fc_of (fn_HL (S := Unit) (N := N_deck_in) (ps := P_deck_in) (T := false) (t := t_deck_in) (g := m_deck_in) (M := b_deck_in) (en := fun _ => .err) F hG ⟨rfl, rfl, rfl, by decide +kernel, rfl, by decide +kernel, by decide +kernel⟩ (fun _ => rfl) (fun _ => rfl) (fun _ _ h => nomatch h) (fun _ _ h => nomatch h) (fun cdv hcd A outer s H E C r => h_deck_in B C r)) hm F.kp ⟨[], .nil, (F.bindsN fun _ _ _ _ _ _ us hl => match us, hl with | [_, _], _ => rfl)⟩
theorem W_in_order {P : Program} {w : World} {K : PySem.W.Frag} {mg : Str → Option Value} {base : Heap} {G : Gv} (hG : K = G.K) (B : Bn G K mg) (D : ∃ fd, FunD K "in_order" "in_order" (defArgs (top 26)) (defBody (top 26)) (defScope (top 26)) [] [] (He.fAd K ("in_order", none)) fd) (hm : mg "in_order" = some (.ref (He.fAd K ("in_order", none)))) (hL : ∀ cdv : Value, CodeAt K (He.fAd K ("in_order", none)) "in_order" cdv → ∀ (A : Around) (outer : List Env) (s : Shared) (H : Hp) (E : XK), Lt G (cxOf (L2.CX P w) P w K mg base N_in_order "in_order" sc_in_order (He.fAd K ("in_order", none)) cdv A outer s H E)) (F_rank_of : Fc G P w K mg base false "rank_of" (Rt t_rank_of m_rank_of) [] 1) : Fc G P w K mg base false "in_order" (Rt t_in_order m_in_order) [] 5 := by
  obtain ⟨fd, F⟩ := D
  exact fc_of (fn_HL (S := Unit) (N := N_in_order) (ps := P_in_order) (T := false) (t := t_in_order) (g := m_in_order) (M := b_in_order) (en := fun _ => .err) F hG ⟨rfl, rfl, rfl, by decide +kernel, rfl, by decide +kernel, by decide +kernel⟩ (fun _ => rfl) (fun _ => rfl) (fun _ _ h => nomatch h) (fun _ _ h => nomatch h) (fun cdv hcd A outer s H E C r => h_in_order B C (hL cdv hcd A outer s H E) F_rank_of r)) hm F.kp ⟨[], .nil, (F.bindsN fun _ _ _ _ _ _ us hl => match us, hl with | [_, _], _ => rfl)⟩
theorem W_behind_middle {P : Program} {w : World} {K : PySem.W.Frag} {mg : Str → Option Value} {base : Heap} {G : Gv} (hG : K = G.K) (B : Bn G K mg) (D : ∃ fd, FunD K "behind_middle" "behind_middle" (defArgs (top 29)) (defBody (top 29)) (defScope (top 29)) [] [] (He.fAd K ("behind_middle", none)) fd) (hm : mg "behind_middle" = some (.ref (He.fAd K ("behind_middle", none)))) (F_first_of_each : Fc G P w K mg base false "first_of_each" (Rt t_first_of_each m_first_of_each) [] 2) (F_in_order : Fc G P w K mg base false "in_order" (Rt t_in_order m_in_order) [] 5) (F_columns_of : Fc G P w K mg base false "columns_of" (Rt t_columns_of m_columns_of) [] 1) (F_deck_in : Fc G P w K mg base false "deck_in" (Rt t_deck_in m_deck_in) [] 1) (F_part_of : Fc G P w K mg base false "part_of" (Rt t_part_of m_part_of) [] 1) : Fc G P w K mg base true "behind_middle" (Rt t_behind_middle m_behind_middle) [] 6 := by
  obtain ⟨fd, F⟩ := D
  exact fc_of (fn_HL (S := Unit) (N := N_behind_middle) (ps := P_behind_middle) (T := true) (t := t_behind_middle) (g := m_behind_middle) (M := b_behind_middle) (en := fun _ => .err) F hG ⟨rfl, rfl, rfl, by decide +kernel, rfl, by decide +kernel, by decide +kernel⟩ (fun _ => rfl) (fun _ => rfl) (fun _ _ h => nomatch h) (fun _ _ h => nomatch h) (fun cdv hcd A outer s H E C r => h_behind_middle B C F_first_of_each F_in_order F_columns_of F_deck_in F_part_of r)) hm F.kp ⟨[], .nil, (F.bindsN fun _ _ _ _ _ _ us hl => match us, hl with | [_, _, _], _ => rfl)⟩
theorem W_chosen_deck {P : Program} {w : World} {K : PySem.W.Frag} {mg : Str → Option Value} {base : Heap} {G : Gv} (hG : K = G.K) (B : Bn G K mg) (D : ∃ fd, FunD K "chosen_deck" "chosen_deck" (defArgs (top 30)) (defBody (top 30)) (defScope (top 30)) [] [] (He.fAd K ("chosen_deck", none)) fd) (hm : mg "chosen_deck" = some (.ref (He.fAd K ("chosen_deck", none)))) (F_deck_in : Fc G P w K mg base false "deck_in" (Rt t_deck_in m_deck_in) [] 1) (F_is_picked : Fc G P w K mg base false "is_picked" (Rt t_is_picked m_is_picked) [] 2) (F_behind_middle : Fc G P w K mg base true "behind_middle" (Rt t_behind_middle m_behind_middle) [] 6) (F_columns_of : Fc G P w K mg base false "columns_of" (Rt t_columns_of m_columns_of) [] 1) (F_in_order : Fc G P w K mg base false "in_order" (Rt t_in_order m_in_order) [] 5) (F_work_card : Fc G P w K mg base false "work_card" (Rt t_work_card m_work_card) [] 3) : Fc G P w K mg base false "chosen_deck" (Rt t_chosen_deck m_chosen_deck) [] 7 := by
  obtain ⟨fd, F⟩ := D
  exact fc_of (fn_HL (S := Unit) (N := N_chosen_deck) (ps := P_chosen_deck) (T := false) (t := t_chosen_deck) (g := m_chosen_deck) (M := b_chosen_deck) (en := fun _ => .err) F hG ⟨rfl, rfl, rfl, by decide +kernel, rfl, by decide +kernel, by decide +kernel⟩ (fun _ => rfl) (fun _ => rfl) (fun _ _ h => nomatch h) (fun _ _ h => nomatch h) (fun cdv hcd A outer s H E C r => h_chosen_deck B C F_deck_in F_is_picked F_behind_middle F_columns_of F_in_order F_work_card r)) hm F.kp ⟨[], .nil, (F.bindsN fun _ _ _ _ _ _ us hl => match us, hl with | [_, _], _ => rfl)⟩
theorem W__law_cell {P : Program} {w : World} {K : PySem.W.Frag} {mg : Str → Option Value} {base : Heap} {G : Gv} (hG : K = G.K) (B : Bn G K mg) (D : ∃ fd, FunD K "_law_cell" "_law_cell" (defArgs (top 43)) (defBody (top 43)) (defScope (top 43)) [] [] (He.fAd K ("_law_cell", none)) fd) (hm : mg "_law_cell" = some (.ref (He.fAd K ("_law_cell", none)))) : Fc G P w K mg base false "_law_cell" (Rt t__law_cell m__law_cell) [] 1 := by
  obtain ⟨fd, F⟩ := D
  exact fc_of (fn_HL (S := Unit) (N := N__law_cell) (ps := P__law_cell) (T := false) (t := t__law_cell) (g := m__law_cell) (M := b__law_cell) (en := fun _ => .err) F hG ⟨rfl, rfl, rfl, by decide +kernel, rfl, by decide +kernel, by decide +kernel⟩ (fun _ => rfl) (fun _ => rfl) (fun _ _ h => nomatch h) (fun _ _ h => nomatch h) (fun cdv hcd A outer s H E C r => h__law_cell B C r)) hm F.kp ⟨[], .nil, (F.bindsN fun _ _ _ _ _ _ us hl => match us, hl with | [_, _], _ => rfl)⟩
theorem W__law_card {P : Program} {w : World} {K : PySem.W.Frag} {mg : Str → Option Value} {base : Heap} {G : Gv} (hG : K = G.K) (B : Bn G K mg) (D : ∃ fd, FunD K "_law_card" "_law_card" (defArgs (top 44)) (defBody (top 44)) (defScope (top 44)) [] [] (He.fAd K ("_law_card", none)) fd) (hm : mg "_law_card" = some (.ref (He.fAd K ("_law_card", none)))) : Fc G P w K mg base false "_law_card" (Rt t__law_card m__law_card) [] 1 := by
  obtain ⟨fd, F⟩ := D
  exact fc_of (fn_HL (S := Unit) (N := N__law_card) (ps := P__law_card) (T := false) (t := t__law_card) (g := m__law_card) (M := b__law_card) (en := fun _ => .err) F hG ⟨rfl, rfl, rfl, by decide +kernel, rfl, by decide +kernel, by decide +kernel⟩ (fun _ => rfl) (fun _ => rfl) (fun _ _ h => nomatch h) (fun _ _ h => nomatch h) (fun cdv hcd A outer s H E C r => h__law_card B C r)) hm F.kp ⟨[], .nil, (F.bindsN fun _ _ _ _ _ _ us hl => match us, hl with | [_, _], _ => rfl)⟩
theorem W__law_within {P : Program} {w : World} {K : PySem.W.Frag} {mg : Str → Option Value} {base : Heap} {G : Gv} (hG : K = G.K) (B : Bn G K mg) (D : ∃ fd, FunD K "_law_within" "_law_within" (defArgs (top 45)) (defBody (top 45)) (defScope (top 45)) [] [] (He.fAd K ("_law_within", none)) fd) (hm : mg "_law_within" = some (.ref (He.fAd K ("_law_within", none)))) : Fc G P w K mg base false "_law_within" (Rt t__law_within m__law_within) [] 1 := by
  obtain ⟨fd, F⟩ := D
  exact fc_of (fn_HL (S := Unit) (N := N__law_within) (ps := P__law_within) (T := false) (t := t__law_within) (g := m__law_within) (M := b__law_within) (en := fun _ => .err) F hG ⟨rfl, rfl, rfl, by decide +kernel, rfl, by decide +kernel, by decide +kernel⟩ (fun _ => rfl) (fun _ => rfl) (fun _ _ h => nomatch h) (fun _ _ h => nomatch h) (fun cdv hcd A outer s H E C r => h__law_within B C r)) hm F.kp ⟨[], .nil, (F.bindsN fun _ _ _ _ _ _ us hl => match us, hl with | [_, _, _], _ => rfl)⟩
theorem W__law_number {P : Program} {w : World} {K : PySem.W.Frag} {mg : Str → Option Value} {base : Heap} {G : Gv} (hG : K = G.K) (B : Bn G K mg) (D : ∃ fd, FunD K "_law_number" "_law_number" (defArgs (top 46)) (defBody (top 46)) (defScope (top 46)) [] [] (He.fAd K ("_law_number", none)) fd) (hm : mg "_law_number" = some (.ref (He.fAd K ("_law_number", none)))) : Fc G P w K mg base false "_law_number" (Rt t__law_number m__law_number) [] 1 := by
  obtain ⟨fd, F⟩ := D
  exact fc_of (fn_HL (S := Unit) (N := N__law_number) (ps := P__law_number) (T := false) (t := t__law_number) (g := m__law_number) (M := b__law_number) (en := fun _ => .err) F hG ⟨rfl, rfl, rfl, by decide +kernel, rfl, by decide +kernel, by decide +kernel⟩ (fun _ => rfl) (fun _ => rfl) (fun _ _ h => nomatch h) (fun _ _ h => nomatch h) (fun cdv hcd A outer s H E C r => h__law_number B C r)) hm F.kp ⟨[], .nil, (F.bindsN fun _ _ _ _ _ _ us hl => match us, hl with | [_, _], _ => rfl)⟩
theorem W__law_worked {P : Program} {w : World} {K : PySem.W.Frag} {mg : Str → Option Value} {base : Heap} {G : Gv} (hG : K = G.K) (B : Bn G K mg) (D : ∃ fd, FunD K "_law_worked" "_law_worked" (defArgs (top 47)) (defBody (top 47)) (defScope (top 47)) [] [] (He.fAd K ("_law_worked", none)) fd) (hm : mg "_law_worked" = some (.ref (He.fAd K ("_law_worked", none)))) (F__law_number : Fc G P w K mg base false "_law_number" (Rt t__law_number m__law_number) [] 1) : Fc G P w K mg base false "_law_worked" (Rt t__law_worked m__law_worked) [] 2 := by
  obtain ⟨fd, F⟩ := D
  exact fc_of (fn_HL (S := Unit) (N := N__law_worked) (ps := P__law_worked) (T := false) (t := t__law_worked) (g := m__law_worked) (M := b__law_worked) (en := fun _ => .err) F hG ⟨rfl, rfl, rfl, by decide +kernel, rfl, by decide +kernel, by decide +kernel⟩ (fun _ => rfl) (fun _ => rfl) (fun _ _ h => nomatch h) (fun _ _ h => nomatch h) (fun cdv hcd A outer s H E C r => h__law_worked B C F__law_number r)) hm F.kp ⟨[], .nil, (F.bindsN fun _ _ _ _ _ _ us hl => match us, hl with | [_, _], _ => rfl)⟩
theorem W_law {P : Program} {w : World} {K : PySem.W.Frag} {mg : Str → Option Value} {base : Heap} {G : Gv} (hG : K = G.K) (B : Bn G K mg) {fd : FuncData} (F : FunD K "law" "law" (defArgs (top 48)) (defBody (top 48)) (defScope (top 48)) [] [] (He.fAd K ("law", none)) fd) (F__law_cell : Fc G P w K mg base false "_law_cell" (Rt t__law_cell m__law_cell) [] 1) (F__law_within : Fc G P w K mg base false "_law_within" (Rt t__law_within m__law_within) [] 1) (F__law_card : Fc G P w K mg base false "_law_card" (Rt t__law_card m__law_card) [] 1) (F__law_worked : Fc G P w K mg base false "_law_worked" (Rt t__law_worked m__law_worked) [] 2) (F_chosen_deck : Fc G P w K mg base false "chosen_deck" (Rt t_chosen_deck m_chosen_deck) [] 7) (K_Asking_5 : Fk G P w K mg base 0 "Asking" (RtI (fun r => t_Asking_5 r ++ dd_Asking_5) (fun r => (mk_Asking_5 r).map flds_Asking)) dv_Asking_5 6) : FnOk P w K mg base (L2.CX P w) 8 (He.fAd K ("law", none)) fd P_law (LawSp G m_law) :=
  law_ok (fn_HL (S := Unit) (N := N_law) (ps := P_law) (T := false) (t := t_law) (g := m_law) (M := b_law) (en := fun _ => .err) F hG ⟨rfl, rfl, rfl, by decide +kernel, rfl, by decide +kernel, by decide +kernel⟩ (fun _ => rfl) (fun _ => rfl) (fun _ _ h => nomatch h) (fun _ _ h => nomatch h) (fun cdv hcd A outer s H E C r => h_law B C F__law_cell F__law_within F__law_card F__law_worked F_chosen_deck K_Asking_5 r)) (fun _ => rfl) rfl
end CS
namespace CS
open Enc (enc)
open PySem PySem.Spec PyProof.Rows L2
theorem okIf_pos {α : Type} {c : Prop} [Decidable c] {a : α} (h : c) : okIf c a = .ok a := if_pos h
theorem modR_ok {x y : Int} (h : 0 < y) : modR x y = .ok (x % y) := okIf_pos h
theorem divR_ok {x y : Int} (h : 0 < y ∧ y < 1073741824) : divR x y = .ok (x / y) := okIf_pos h
theorem mulR_ok {x y : Int} (h : (-18446744073709551616 < x ∧ x < 18446744073709551616) ∨ (-18446744073709551616 < y ∧ y < 18446744073709551616)) : mulR x y = .ok (x * y) := okIf_pos h
theorem atI_lt {α : Type} {xs : List α} {i : Int} (h0 : 0 ≤ i) (h : i < xs.length) : ∃ y, getI xs i = .ok y := by
  have hi : i.toNat < xs.length := by omega
  refine ⟨xs[i.toNat], ?_⟩
  unfold getI atI ixN
  rw [if_pos h0, if_pos h]
  show (match xs[i.toNat]? with | some x => Res.ok x | none => .err) = _
  rw [List.getElem?_eq_getElem hi]
theorem within_ok (z low many : Int) (h : 0 < many) (h2 : many < 1073741824) : ∃ a b, m__law_within (z, low, many, ()) = .ok (a, b) ∧ low ≤ a ∧ a ≤ b ∧ b < low + many := by
  have e1 := Int.emod_nonneg z (Int.ne_of_gt h)
  have e2 := Int.emod_lt_of_pos z h
  have h3 : 0 < low + many - (low + z % many) := by omega
  have e3 := Int.emod_nonneg (z / many) (Int.ne_of_gt h3)
  have e4 := Int.emod_lt_of_pos (z / many) h3
  refine ⟨low + z % many, low + z % many + (z / many) % (low + many - (low + z % many)), ?_, by omega, by omega, by omega⟩
  unfold m__law_within b__law_within
  simp only [Res.ok_bind, modR_ok h, divR_ok ⟨h, h2⟩, modR_ok h3, Fl.fin]
theorem cell_ok (ns : List Int) (k : Int) (h0 : 0 ≤ k) (h1 : k < 1000) : ∃ z, m__law_cell (⟨ns⟩, k, ()) = .ok z := by
  unfold m__law_cell b__law_cell
  simp only [Res.ok_bind]
  by_cases hk : k < (ns.length : Int)
  · obtain ⟨y, hy⟩ := atI_lt (xs := ns) h0 hk
    refine ⟨y, ?_⟩
    simp [hk, hy, Fl.cut, Fl.fin]
  · simp only [hk, decide_false, Bool.false_eq_true, if_false]
    by_cases hz : 0 < (ns.length : Int)
    · have q0 := Int.emod_nonneg (k * 7) (Int.ne_of_gt hz)
      have q1 := Int.emod_lt_of_pos (k * 7) hz
      obtain ⟨y, hy⟩ := atI_lt (xs := ns) q0 q1
      have m0 := Int.emod_nonneg (y * 48271 + k * 7919) (b := 2147483647) (by decide)
      have m1 := Int.emod_lt_of_pos (y * 48271 + k * 7919) (b := 2147483647) (by decide)
      refine ⟨((y * 48271 + k * 7919) % 2147483647 * ((y * 48271 + k * 7919) % 2147483647)) % 2147483629, ?_⟩
      rw [mulR_ok (x := k) (y := 7919) (.inr (by decide)), mulR_ok (x := k) (y := 7) (.inr (by decide))]
      simp only [Res.ok_bind, hz, decide_true, if_true, modR_ok hz, hy]
      rw [mulR_ok (x := y) (y := 48271) (.inr (by decide))]
      simp only [Res.ok_bind]
      rw [modR_ok (y := 2147483647) (by decide)]
      simp only [Res.ok_bind, Fl.goL]
      rw [mulR_ok (.inl ⟨by omega, by omega⟩)]
      simp only [Res.ok_bind]
      rw [modR_ok (y := 2147483629) (by decide)]
      simp only [Res.ok_bind, Fl.fin]
    · refine ⟨((k * 7919 + 5) * (k * 7919 + 5)) % 2147483629, ?_⟩
      rw [mulR_ok (x := k) (y := 7919) (.inr (by decide))]
      simp only [Res.ok_bind, hz, decide_false, Bool.false_eq_true, if_false, Fl.goL]
      rw [mulR_ok (.inl ⟨by omega, by omega⟩)]
      simp only [Res.ok_bind]
      rw [modR_ok (y := 2147483629) (by decide)]
      simp only [Res.ok_bind, Fl.fin]
theorem cutR_ok {z : Str} {i j : Option Int} (h : z.length ≤ SZ) : cutR z i j = .ok (cutS z i j) := okIf_pos h
theorem catS_ok {x y : Str} (h : x.length + y.length ≤ SZ) : catS x y = .ok (x ++ y) := okIf_pos h
theorem log_small {z : Int} {n : Nat} (h : z.natAbs < 2 ^ n) (hn : n ≤ 1920) (h1 : 0 < n) : z.natAbs.log2 < 1920 := by
  by_cases h0 : z.natAbs = 0
  · rw [h0]; decide
  · exact Nat.lt_of_lt_of_le ((Nat.log2_lt h0).mpr h) hn
theorem card_ok (z k : Int) (h0 : 0 ≤ k) (h1 : k < 1000) : ∃ t, m__law_card (z, k, ()) = .ok t ∧ t.length ≤ 7000 := by
  have a0 := Int.emod_nonneg z (b := 10 ^ 36) (by decide)
  have a1 := Int.emod_lt_of_pos z (b := 10 ^ 36) (by decide)
  have l1 : (z % 10 ^ 36).natAbs.log2 < 1920 := log_small (n := 120) (by omega) (by decide) (by decide)
  have l2 : k.natAbs.log2 < 1920 := log_small (n := 10) (by omega) (by decide) (by decide)
  have n1 := int_text_len_1921 l1
  have n2 := int_text_len_1921 l2
  have z1 := len_zfill (Str.ofString (toString (z % 10 ^ 36))) 36
  have z2 := len_zfill (Str.ofString (toString k)) 4
  have w1 : (Txt.zfill (Str.ofString (toString (z % 10 ^ 36))) 36).length ≤ 1921 := by split at z1 <;> omega
  have w2 : (Txt.zfill (Str.ofString (toString k)) 4).length ≤ 1921 := by split at z2 <;> omega
  generalize hA : Txt.zfill (Str.ofString (toString (z % 10 ^ 36))) 36 = A at w1
  generalize hB : Txt.zfill (Str.ofString (toString k)) 4 = B at w2
  unfold m__law_card b__law_card
  have p1 : powR 10 36 = .ok (10 ^ 36) := okIf_pos (by decide)
  have p2 : modR z (10 ^ 36) = .ok (z % 10 ^ 36) := modR_ok (by decide)
  have p3 : strI (z % 10 ^ 36) = .ok (Str.ofString (toString (z % 10 ^ 36))) := okIf_pos l1
  have p4 : padR Txt.zfill (Str.ofString (toString (z % 10 ^ 36))) 36 = .ok A := by rw [← hA]; exact okIf_pos (by decide +kernel)
  have p5 : strI k = .ok (Str.ofString (toString k)) := okIf_pos l2
  have p6 : padR Txt.zfill (Str.ofString (toString k)) 4 = .ok B := by rw [← hB]; exact okIf_pos (by decide +kernel)
  have SZe : SZ = 16777216 := rfl
  simp only [Res.ok_bind, p1, p2, p3, p4, p5, p6, divR_ok (x := z) (y := 4) ⟨by decide, by decide⟩, modR_ok (y := 36) (by decide : (0 : Int) < 36), modR_ok (y := 4) (by decide : (0 : Int) < 4)]
  by_cases hc : 0 < z % 4
  · have c1 := Int.emod_lt_of_pos z (b := 4) (by decide)
    obtain ⟨g, hg, gl⟩ : ∃ g, getS " ZA" (z % 4 - 1) = .ok g ∧ g.length = 1 := by
      have : z % 4 = 1 ∨ z % 4 = 2 ∨ z % 4 = 3 := by omega
      rcases this with e | e | e <;> rw [e] <;> exact ⟨_, rfl, rfl⟩
    have c2 := cutS_length A none (some (z / 4 % 36))
    have c3 := cutS_length A (some (z / 4 % 36 + 1)) none
    simp only [hc, decide_true, if_true, hg, Res.ok_bind]
    rw [cutR_ok (by omega), Res.ok_bind, catS_ok (by omega), Res.ok_bind, cutR_ok (by omega), Res.ok_bind, catS_ok (by rw [Str.length_append]; omega)]
    simp only [Res.ok_bind, Fl.goL]
    rw [catS_ok (by rw [Str.length_append, Str.length_append]; omega)]
    exact ⟨_, rfl, by rw [Str.length_append, Str.length_append, Str.length_append]; omega⟩
  · simp only [hc, decide_false, Bool.false_eq_true, if_false, Res.ok_bind, Fl.goL]
    rw [catS_ok (by omega)]
    exact ⟨_, rfl, by rw [Str.length_append]; omega⟩
end CS
namespace CS
open Enc (enc)
open PySem PySem.Spec PyProof.Rows L2
theorem forR_congr {α S ρ : Type} {f g : α → S → Res (Fl S ρ)} : ∀ {xs : List α} {s : S}, (∀ x ∈ xs, ∀ s, f x s = g x s) → forR xs s f = forR xs s g
  | [], _, _ => rfl
  | x :: xs, s, h => by
    unfold forR
    rw [h x (List.mem_cons_self ..) s]
    congr 1
    funext r
    cases r with
    | nx s => exact forR_congr fun y hy => h y (List.mem_cons_of_mem _ hy)
    | ct s => exact forR_congr fun y hy => h y (List.mem_cons_of_mem _ hy)
    | bk s => rfl
    | rt r => rfl
theorem dig_of {c : Nat} (h : c ∈ (("0123456789" : Str)).cps.toList) : c = 48 ∨ c = 49 ∨ c = 50 ∨ c = 51 ∨ c = 52 ∨ c = 53 ∨ c = 54 ∨ c = 55 ∨ c = 56 ∨ c = 57 := by
  have e : (("0123456789" : Str)).cps.toList = [48, 49, 50, 51, 52, 53, 54, 55, 56, 57] := by decide +kernel
  rw [e] at h
  simpa using h
/-- a digit's worth -/
theorem dig_val {c : Nat} (h : c ∈ (("0123456789" : Str)).cps.toList) : ∃ d : Int, 0 ≤ d ∧ d ≤ 9 ∧ intS ⟨#[c]⟩ = .ok d ∧ sindexR "0123456789" ⟨#[c]⟩ = .ok d := by
  rcases dig_of h with e | e | e | e | e | e | e | e | e | e <;> subst e
  · exact ⟨0, by decide, by decide, by kernel_rfl, by kernel_rfl⟩
  · exact ⟨1, by decide, by decide, by kernel_rfl, by kernel_rfl⟩
  · exact ⟨2, by decide, by decide, by kernel_rfl, by kernel_rfl⟩
  · exact ⟨3, by decide, by decide, by kernel_rfl, by kernel_rfl⟩
  · exact ⟨4, by decide, by decide, by kernel_rfl, by kernel_rfl⟩
  · exact ⟨5, by decide, by decide, by kernel_rfl, by kernel_rfl⟩
  · exact ⟨6, by decide, by decide, by kernel_rfl, by kernel_rfl⟩
  · exact ⟨7, by decide, by decide, by kernel_rfl, by kernel_rfl⟩
  · exact ⟨8, by decide, by decide, by kernel_rfl, by kernel_rfl⟩
  · exact ⟨9, by decide, by decide, by kernel_rfl, by kernel_rfl⟩
theorem inS_one (c : Nat) (y : Str) : inS ⟨#[c]⟩ y = .ok (decide (c ∈ y.cps.toList)) := rfl
/-- the number that signs tell -/
theorem num_loops {f g : Str → Int × Unit → Res (Fl (Int × Unit) Int)}
    (hf : ∀ (c : Nat) (t : Int), ∃ d : Int, 0 ≤ d ∧ d ≤ 9 ∧ f ⟨#[c]⟩ (t, ()) = .ok (.nx (10 * t + d, ())) ∧ g ⟨#[c]⟩ (t, ()) = .ok (.nx (10 * t + d, ()))) :
    ∀ (cs : List Nat) (t : Int), 0 ≤ t → ∃ n : Int, forR (cs.map fun c => (⟨#[c]⟩ : Str)) (t, ()) f = .ok (.nx (n, ())) ∧ forR (cs.map fun c => (⟨#[c]⟩ : Str)) (t, ()) g = .ok (.nx (n, ())) ∧ 0 ≤ n ∧ n < (t + 1) * 10 ^ cs.length
  | [], t, ht => ⟨t, rfl, rfl, ht, by simp; omega⟩
  | c :: cs, t, ht => by
    obtain ⟨d, d0, d1, h1, h2⟩ := hf c t
    obtain ⟨n, e1, e2, n0, n1⟩ := num_loops hf cs (10 * t + d) (by omega)
    refine ⟨n, ?_, ?_, n0, ?_⟩
    · rw [List.map_cons, forR, h1, Res.ok_bind]; exact e1
    · rw [List.map_cons, forR, h2, Res.ok_bind]; exact e2
    · rw [List.length_cons, Int.pow_succ]
      have : (10 * t + d + 1) * 10 ^ cs.length ≤ (t + 1) * (10 ^ cs.length * 10) := by
        have p : (0 : Int) ≤ 10 ^ cs.length := Int.pow_nonneg (by decide)
        have q : 10 * t + d + 1 ≤ (t + 1) * 10 := by omega
        have := Int.mul_le_mul_of_nonneg_right q p
        rw [Int.mul_comm (10 ^ cs.length) 10, ← Int.mul_assoc]
        exact this
      omega
theorem mul10_ok (t : Int) : mulR 10 t = .ok (10 * t) := mulR_ok (.inl (by decide))
theorem numbers (c : Str) (f : Int × Int) (hc : c.length ≤ SZ) : ∃ n : Int, m_number_of (c, f, ()) = .ok n ∧ m__law_number (c, f, ()) = .ok n ∧ 0 ≤ n ∧ n < 10 ^ (cutS c (some (f.1 - 1)) (some f.2)).length := by
  have part : m_part_of (c, f, ()) = .ok (cutS c (some (f.1 - 1)) (some f.2)) := by
    unfold m_part_of b_part_of
    simp only [Res.ok_bind, cutR_ok hc, Fl.fin]
  have step : ∀ (cc : Nat) (t : Int), ∃ d : Int, 0 ≤ d ∧ d ≤ 9 ∧
      ((mulR 10 t).bind fun total_69 => (inS ⟨#[cc]⟩ "0123456789").bind fun z_74 => if z_74 = true then ((intS ⟨#[cc]⟩).bind fun v_78 => .ok (total_69 + v_78)).bind fun total_75 => .ok (.nx (total_75, ())) else .ok (.nx (total_69, ())) : Res (Fl (Int × Unit) Int)) = .ok (.nx (10 * t + d, ())) ∧
      ((mulR 10 t).bind fun total_69 => (inS ⟨#[cc]⟩ "0123456789").bind fun z_74 => if z_74 = true then ((sindexR "0123456789" ⟨#[cc]⟩).bind fun v_78 => .ok (total_69 + v_78)).bind fun total_75 => .ok (.nx (total_75, ())) else .ok (.nx (total_69, ())) : Res (Fl (Int × Unit) Int)) = .ok (.nx (10 * t + d, ())) := by
    intro cc t
    rw [mul10_ok, inS_one]
    by_cases h : cc ∈ (("0123456789" : Str)).cps.toList
    · obtain ⟨d, d0, d1, h1, h2⟩ := dig_val h
      exact ⟨d, d0, d1, by simp only [Res.ok_bind, h, decide_true, if_true, h1], by simp only [Res.ok_bind, h, decide_true, if_true, h2]⟩
    · exact ⟨0, by decide, by decide, by simp only [Res.ok_bind, h, decide_false, Bool.false_eq_true, if_false, Int.add_zero], by simp only [Res.ok_bind, h, decide_false, Bool.false_eq_true, if_false, Int.add_zero]⟩
  obtain ⟨n, e1, e2, n0, n1⟩ := num_loops (f := fun x s => (mulR 10 s.1).bind fun total_69 => (inS x "0123456789").bind fun z_74 => if z_74 = true then ((intS x).bind fun v_78 => .ok (total_69 + v_78)).bind fun total_75 => .ok (.nx (total_75, ())) else .ok (.nx (total_69, ()))) (g := fun x s => (mulR 10 s.1).bind fun total_69 => (inS x "0123456789").bind fun z_74 => if z_74 = true then ((sindexR "0123456789" x).bind fun v_78 => .ok (total_69 + v_78)).bind fun total_75 => .ok (.nx (total_75, ())) else .ok (.nx (total_69, ()))) step (cutS c (some (f.1 - 1)) (some f.2)).cps.toList 0 (by decide)
  refine ⟨n, ?_, ?_, n0, ?_⟩
  · unfold m_number_of b_number_of
    simp only [Res.ok_bind, part]
    rw [show sgn (cutS c (some (f.1 - 1)) (some f.2)) = (cutS c (some (f.1 - 1)) (some f.2)).cps.toList.map fun c => (⟨#[c]⟩ : Str) from rfl]
    rw [e1]
    rfl
  · unfold m__law_number b__law_number
    simp only [Res.ok_bind, cutR_ok hc]
    rw [show sgn (cutS c (some (f.1 - 1)) (some f.2)) = (cutS c (some (f.1 - 1)) (some f.2)).cps.toList.map fun c => (⟨#[c]⟩ : Str) from rfl]
    rw [e2]
    rfl
  · have : (cutS c (some (f.1 - 1)) (some f.2)).cps.toList.length = (cutS c (some (f.1 - 1)) (some f.2)).length := by simp [Str.length]
    rw [this] at n1
    omega
end CS
namespace CS
open Enc (enc)
open PySem PySem.Spec PyProof.Rows L2
theorem cut_len (c : Str) (a b : Int) (ha : 1 ≤ a) (hb : 0 ≤ b) : ((cutS c (some (a - 1)) (some b)).length : Int) ≤ max (b - a + 1) 0 := by
  have e : (cutS c (some (a - 1)) (some b)).length = min (HT.sIx c.length c.length (some b) - HT.sIx c.length 0 (some (a - 1))) (c.cps.toList.length - HT.sIx c.length 0 (some (a - 1))) := by
    unfold cutS Str.length
    simp
  rw [e]
  unfold HT.sIx
  simp only [if_neg (show ¬ (b < 0) by omega), if_neg (show ¬ (a - 1 < 0) by omega)]
  have hc : c.cps.toList.length = c.length := by simp [Str.length]
  rw [hc]
  omega
theorem digit_txt (d : Int) (h0 : 0 ≤ d) (h1 : d < 10) : ∃ x : Str, strI d = .ok x ∧ getS "0123456789" d = .ok x ∧ x.length = 1 := by
  have : d = 0 ∨ d = 1 ∨ d = 2 ∨ d = 3 ∨ d = 4 ∨ d = 5 ∨ d = 6 ∨ d = 7 ∨ d = 8 ∨ d = 9 := by omega
  rcases this with e | e | e | e | e | e | e | e | e | e <;> subst e
  · exact ⟨"0", by kernel_rfl, by kernel_rfl, by kernel_rfl⟩
  · exact ⟨"1", by kernel_rfl, by kernel_rfl, by kernel_rfl⟩
  · exact ⟨"2", by kernel_rfl, by kernel_rfl, by kernel_rfl⟩
  · exact ⟨"3", by kernel_rfl, by kernel_rfl, by kernel_rfl⟩
  · exact ⟨"4", by kernel_rfl, by kernel_rfl, by kernel_rfl⟩
  · exact ⟨"5", by kernel_rfl, by kernel_rfl, by kernel_rfl⟩
  · exact ⟨"6", by kernel_rfl, by kernel_rfl, by kernel_rfl⟩
  · exact ⟨"7", by kernel_rfl, by kernel_rfl, by kernel_rfl⟩
  · exact ⟨"8", by kernel_rfl, by kernel_rfl, by kernel_rfl⟩
  · exact ⟨"9", by kernel_rfl, by kernel_rfl, by kernel_rfl⟩
theorem dig_loops {f : Int → Int × Str × Unit → Res (Fl (Int × Str × Unit) Str)} {g : Int → Str × Int × Unit → Res (Fl (Str × Int × Unit) Str)}
    (hf : ∀ (x v : Int) (s : Str), s.length + 1 ≤ SZ → ∃ (v' : Int) (s' : Str), s'.length = s.length + 1 ∧ f x (v, s, ()) = .ok (.nx (v', s', ())) ∧ g x (s, v, ()) = .ok (.nx (s', v', ()))) :
    ∀ (xs : List Int) (v : Int) (s : Str), s.length + xs.length ≤ SZ → ∃ (v' : Int) (s' : Str), s'.length = s.length + xs.length ∧ forR xs (v, s, ()) f = .ok (.nx (v', s', ())) ∧ forR xs (s, v, ()) g = .ok (.nx (s', v', ()))
  | [], v, s, _ => ⟨v, s, rfl, rfl, rfl⟩
  | x :: xs, v, s, h => by
    rw [List.length_cons] at h
    obtain ⟨v1, s1, l1, e1, e2⟩ := hf x v s (by omega)
    obtain ⟨v2, s2, l2, e3, e4⟩ := dig_loops hf xs v1 s1 (by omega)
    refine ⟨v2, s2, by rw [List.length_cons]; omega, ?_, ?_⟩
    · rw [forR, e1, Res.ok_bind]; exact e3
    · rw [forR, e2, Res.ok_bind]; exact e4
/-- a work that fits -/
structure Fits (w : T4 (Int × Int) (Int × Int) Str (Int × Int)) : Prop where
  a1 : 1 ≤ w.a.1
  a2 : w.a.1 ≤ w.a.2
  a3 : w.a.2 ≤ 36
  b1 : 1 ≤ w.b.1
  b2 : w.b.1 ≤ w.b.2
  b3 : w.b.2 ≤ w.b.1 + 15
  d1 : 1 ≤ w.d.1
  d2 : w.d.1 ≤ w.d.2
  d3 : w.d.2 ≤ w.d.1 + 15
  c : w.c = "plus" ∨ w.c = "less" ∨ w.c = "times"
theorem num_small (c : Str) (f : Int × Int) (h1 : 1 ≤ f.1) (h2 : f.1 ≤ f.2) (h3 : f.2 ≤ f.1 + 15) {n : Int} (hn : n < 10 ^ (cutS c (some (f.1 - 1)) (some f.2)).length) : n < 18446744073709551616 := by
  have l := cut_len c f.1 f.2 h1 (by omega)
  have : (cutS c (some (f.1 - 1)) (some f.2)).length ≤ 16 := by omega
  have p : (10 : Int) ^ (cutS c (some (f.1 - 1)) (some f.2)).length ≤ 10 ^ 16 := by
    exact_mod_cast Nat.pow_le_pow_right (by decide : 0 < 10) this
  have : (10 : Int) ^ 16 = 10000000000000000 := by decide
  omega
abbrev F1 : Int → Int × Str × Unit → Res (Fl (Int × Str × Unit) Str) := fun x s => (divmodR s.1 10).bind fun tp => ((strI tp.2).bind fun v => catS v s.2.1).bind fun signs => .ok (.nx (tp.1, signs, ()))
abbrev F2 : Int → Str × Int × Unit → Res (Fl (Str × Int × Unit) Str) := fun x s => (((modR s.2.1 10).bind fun v => getS "0123456789" v).bind fun v => catS v s.1).bind fun text => (divR s.2.1 10).bind fun value => .ok (.nx (text, value, ()))
theorem steps (x v : Int) (s : Str) (h : s.length + 1 ≤ SZ) : ∃ (v' : Int) (s' : Str), s'.length = s.length + 1 ∧ F1 x (v, s, ()) = .ok (.nx (v', s', ())) ∧ F2 x (s, v, ()) = .ok (.nx (s', v', ())) := by
  have h0 := Int.emod_nonneg v (b := 10) (by decide)
  have h1 := Int.emod_lt_of_pos v (b := 10) (by decide)
  obtain ⟨y, e1, e2, ly⟩ := digit_txt (v % 10) h0 h1
  have dm : divmodR v 10 = .ok (v / 10, v % 10) := okIf_pos ⟨by decide, by decide⟩
  have cy : catS y s = .ok (y ++ s) := catS_ok (by omega)
  refine ⟨v / 10, y ++ s, by rw [Str.length_append]; omega, ?_, ?_⟩
  · show ((divmodR v 10).bind fun tp => ((strI tp.2).bind fun w => catS w s).bind fun signs => (.ok (.nx (tp.1, signs, ())) : Res (Fl (Int × Str × Unit) Str))) = _
    simp only [dm, Res.ok_bind, e1, cy]
  · show ((((modR v 10).bind fun w => getS "0123456789" w).bind fun w => catS w s).bind fun text => (divR v 10).bind fun value => (.ok (.nx (text, value, ())) : Res (Fl (Str × Int × Unit) Str))) = _
    simp only [modR_ok (y := 10) (by decide : (0 : Int) < 10), divR_ok (x := v) (y := 10) ⟨by decide, by decide⟩, Res.ok_bind, e2, cy]
def opv (c : Str) (x y : Int) : Int := if decide (c = "plus") = true then x + y else if decide (c = "less") = true then x - y else x * y
/-- what a work writes -/
structure WorkOf (c : Str) (w : T4 (Int × Int) (Int × Int) Str (Int × Int)) (t : Str) : Prop where
  ex : ∃ (nb nd v' : Int) (s' : Str), m_number_of (c, w.b, ()) = .ok nb ∧ m_number_of (c, w.d, ()) = .ok nd ∧ forR (rng 0 (w.a.2 - w.a.1 + 1)) (("" : Str), opv w.c nb nd, ()) F2 = .ok (.nx (s', v', ())) ∧ (s'.length : Int) = w.a.2 - w.a.1 + 1 ∧ t = cutS c none (some (w.a.1 - 1)) ++ s' ++ cutS c (some w.a.2) none
theorem works_eq (c : Str) (w : T4 (Int × Int) (Int × Int) Str (Int × Int)) (hc : c.length ≤ 1000000) (F : Fits w) : ∃ t, m_work_card (c, w, ()) = .ok t ∧ m__law_worked (c, w, ()) = .ok t ∧ t.length ≤ 2 * c.length + 36 ∧ WorkOf c w t := by
  have SZe : SZ = 16777216 := rfl
  obtain ⟨nb, b1, b2, b0, bl⟩ := numbers c w.b (by omega)
  obtain ⟨nd, d1, d2, d0, dl⟩ := numbers c w.d (by omega)
  have sb := num_small c w.b F.b1 F.b2 F.b3 bl
  have sd := num_small c w.d F.d1 F.d2 F.d3 dl
  obtain ⟨wa, wb, wc, wd⟩ := w
  obtain ⟨a1, a2, a3, _, _, _, _, _, _, hw⟩ := F
  simp only at *
  have hr : rngR 0 (wa.2 - wa.1 + 1) = .ok (rng 0 (wa.2 - wa.1 + 1)) := okIf_pos (by omega)
  have lr : (rng 0 (wa.2 - wa.1 + 1)).length ≤ 36 := by unfold rng; simp; omega
  have key : ∀ v : Int, ∃ t : Str, m_punch_in (c, wa, v, ()) = .ok t ∧ t.length ≤ 2 * c.length + 36 ∧ ∃ (v' : Int) (s' : Str), forR (rng 0 (wa.2 - wa.1 + 1)) (("" : Str), v, ()) F2 = .ok (.nx (s', v', ())) ∧ s'.length ≤ 36 ∧ t = cutS c none (some (wa.1 - 1)) ++ s' ++ cutS c (some wa.2) none ∧ (s'.length : Int) = wa.2 - wa.1 + 1 := by
    intro v
    obtain ⟨v', s', ls, e1, e2⟩ := dig_loops steps (rng 0 (wa.2 - wa.1 + 1)) v ("" : Str) (by have : (("" : Str)).length = 0 := rfl; omega)
    have l0 : (("" : Str)).length = 0 := rfl
    have c1 := cutS_length c none (some (wa.1 - 1))
    have c2 := cutS_length c (some wa.2) none
    refine ⟨_, ?_, ?_, v', s', e2, by omega, rfl, by rw [ls, rng_len]; omega⟩
    · unfold m_punch_in b_punch_in
      simp only [Res.ok_bind, hr]
      rw [show forR (rng 0 (wa.2 - wa.1 + 1)) (v, ("" : Str), ()) _ = _ from e1]
      simp only [Res.ok_bind, Fl.goL, cutR_ok (show c.length ≤ SZ by omega)]
      rw [catS_ok (by omega), Res.ok_bind, catS_ok (by rw [Str.length_append]; omega)]
      rfl
    · rw [Str.length_append, Str.length_append]; omega
  have lp : decide (("less" : Str) = "plus") = false := by decide +kernel
  have tp : decide (("times" : Str) = "plus") = false := by decide +kernel
  have tl : decide (("times" : Str) = "less") = false := by decide +kernel
  have pl : decide (("plus" : Str) = "less") = false := by decide +kernel
  have pt : decide (("plus" : Str) = "times") = false := by decide +kernel
  have lt : decide (("less" : Str) = "times") = false := by decide +kernel
  have mm : mulR nb nd = .ok (nb * nd) := mulR_ok (.inl ⟨by omega, sb⟩)
  have fin : ∀ (v v' : Int) (s' : Str), forR (rng 0 (wa.2 - wa.1 + 1)) (("" : Str), v, ()) F2 = .ok (.nx (s', v', ())) → s'.length ≤ 36 → ((catS (cutS c none (some (wa.1 - 1))) s').bind fun x => (cutR c (some wa.2) none).bind fun y => catS x y) = .ok (cutS c none (some (wa.1 - 1)) ++ s' ++ cutS c (some wa.2) none) := by
    intro v v' s' _ ls
    have c1 := cutS_length c none (some (wa.1 - 1))
    have c2 := cutS_length c (some wa.2) none
    rw [catS_ok (by omega), Res.ok_bind, cutR_ok (by omega), Res.ok_bind, catS_ok (by rw [Str.length_append]; omega)]
  rcases hw with e | e | e <;> subst e
  · obtain ⟨t, h1, h2, v', s', h3, h4, h5, h6⟩ := key (nb + nd)
    refine ⟨t, ?_, ?_, h2, ⟨nb, nd, v', s', b1, d1, (by
      have e : opv "plus" nb nd = nb + nd := by simp only [opv, decide_true, if_true]
      show forR (rng 0 (wa.2 - wa.1 + 1)) (("" : Str), opv "plus" nb nd, ()) F2 = _
      rw [e]; exact h3), h6, h5⟩⟩
    · unfold m_work_card b_work_card
      simp only [Res.ok_bind, b1, d1, decide_true, if_true, Fl.goL, h1, Fl.fin]
    · unfold m__law_worked b__law_worked
      simp only [Res.ok_bind, b2, d2, pl, pt, Bool.false_eq_true, if_false, Fl.goL, hr]
      rw [show forR (rng 0 (wa.2 - wa.1 + 1)) (("" : Str), nb + nd, ()) _ = _ from h3]
      simp only [Res.ok_bind, Fl.goL, cutR_ok (show c.length ≤ SZ by omega)]
      have := fin _ _ _ h3 h4
      rw [cutR_ok (show c.length ≤ SZ by omega)] at this
      simp only [Res.ok_bind] at this
      rw [this, h5]; rfl
  · obtain ⟨t, h1, h2, v', s', h3, h4, h5, h6⟩ := key (nb - nd)
    refine ⟨t, ?_, ?_, h2, ⟨nb, nd, v', s', b1, d1, (by
      have e : opv "less" nb nd = nb - nd := by simp only [opv, lp, decide_true, if_true, Bool.false_eq_true, if_false]
      show forR (rng 0 (wa.2 - wa.1 + 1)) (("" : Str), opv "less" nb nd, ()) F2 = _
      rw [e]; exact h3), h6, h5⟩⟩
    · unfold m_work_card b_work_card
      simp only [Res.ok_bind, b1, d1, lp, decide_true, if_true, Bool.false_eq_true, if_false, Fl.goL, h1, Fl.fin]
    · unfold m__law_worked b__law_worked
      simp only [Res.ok_bind, b2, d2, lt, decide_true, if_true, Bool.false_eq_true, if_false, Fl.goL, hr]
      rw [show forR (rng 0 (wa.2 - wa.1 + 1)) (("" : Str), nb - nd, ()) _ = _ from h3]
      simp only [Res.ok_bind, Fl.goL, cutR_ok (show c.length ≤ SZ by omega)]
      have := fin _ _ _ h3 h4
      rw [cutR_ok (show c.length ≤ SZ by omega)] at this
      simp only [Res.ok_bind] at this
      rw [this, h5]; rfl
  · obtain ⟨t, h1, h2, v', s', h3, h4, h5, h6⟩ := key (nb * nd)
    refine ⟨t, ?_, ?_, h2, ⟨nb, nd, v', s', b1, d1, (by
      have e : opv "times" nb nd = nb * nd := by simp only [opv, tp, tl, Bool.false_eq_true, if_false]
      show forR (rng 0 (wa.2 - wa.1 + 1)) (("" : Str), opv "times" nb nd, ()) F2 = _
      rw [e]; exact h3), h6, h5⟩⟩
    · unfold m_work_card b_work_card
      simp only [Res.ok_bind, b1, d1, tp, tl, mm, Bool.false_eq_true, if_false, Fl.goL, h1, Fl.fin]
    · unfold m__law_worked b__law_worked
      simp only [Res.ok_bind, b2, d2, tl, mm, decide_true, if_true, Bool.false_eq_true, if_false, Fl.goL, hr]
      rw [show forR (rng 0 (wa.2 - wa.1 + 1)) (("" : Str), nb * nd, ()) _ = _ from h3]
      simp only [Res.ok_bind, Fl.goL, cutR_ok (show c.length ≤ SZ by omega)]
      have := fin _ _ _ h3 h4
      rw [cutR_ok (show c.length ≤ SZ by omega)] at this
      simp only [Res.ok_bind] at this
      rw [this, h5]; rfl
end CS
namespace CS
open Enc (enc)
open PySem PySem.Spec PyProof.Rows L2
theorem field_ok (f : Int × Int) (h1 : 1 ≤ f.1) (h2 : f.1 ≤ f.2) (h3 : f.2 ≤ 36) : m_is_field (f, ()) = .ok true := by
  unfold m_is_field b_is_field
  simp [chT, h1, h2, h3, Fl.fin]
theorem apart_ok (f g : Int × Int) (h : f.2 < g.1 ∨ g.2 < f.1) : m_are_apart (f, g, ()) = .ok true := by
  unfold m_are_apart b_are_apart orR
  by_cases h1 : f.2 < g.1
  · simp [h1, Fl.fin]
  · have h2 : g.2 < f.1 := by omega
    simp [h1, h2, Fl.fin]
theorem notin_ok {c : Str} (h : c = "plus" ∨ c = "less" ∨ c = "times") : decide (c ∈ [("plus" : Str), "less", "times"]) = true := by
  rcases h with e | e | e <;> subst e <;> simp
def Op (w : T4 (Int × Int) (Int × Int) Str (Int × Int)) : Prop := w.c = "plus" ∨ w.c = "less" ∨ w.c = "times"
def In36 (f : Int × Int) : Prop := 1 ≤ f.1 ∧ f.1 ≤ f.2 ∧ f.2 ≤ 36
def Apt (f g : Int × Int) : Prop := f.2 < g.1 ∨ g.2 < f.1
theorem works1_ok (w : T4 (Int × Int) (Int × Int) Str (Int × Int)) (ho : Op w) (ha : In36 w.a) (hb : In36 w.b) (hd : In36 w.d) (h1 : Apt w.a w.b) (h2 : Apt w.a w.d) : m_are_works ([w], [], ()) = .ok true := by
  have f1 := field_ok w.a ha.1 ha.2.1 ha.2.2
  have f2 := field_ok w.b hb.1 hb.2.1 hb.2.2
  have f3 := field_ok w.d hd.1 hd.2.1 hd.2.2
  have g1 := apart_ok _ _ h1
  have g2 := apart_ok _ _ h2
  have n := notin_ok ho
  have c0 : cutL [w] none (some 0) = [] := rfl
  have c1 : cutL [w] none (some (0 + 1)) = [w] := rfl
  have e : enumL [w] = [(0, w)] := rfl
  have l0 : lcR ([] : List (T4 (Int × Int) (Int × Int) Str (Int × Int))) (fun _ => .ok true) (fun x => (.ok x.a : Res (Int × Int))) = .ok [] := rfl
  have hl : decide ((4 : Int) < (([w] : List (T4 (Int × Int) (Int × Int) Str (Int × Int))).length : Int)) = false := rfl
  have k0 : catL ([] : List (Int × Int)) [] = .ok [] := rfl
  have k1 : catL ([] : List (Int × Int)) [w.b, w.d] = .ok [w.b, w.d] := rfl
  unfold m_are_works b_are_works
  simp only [Res.ok_bind, hl, e, forR, n, c0, c1, l0, nox, f1, f2, f3, g1, g2, orR, Bool.not_true, Bool.false_eq_true, if_false, k0, k1, Fl.goL]
  rfl
theorem works2_ok (w v : T4 (Int × Int) (Int × Int) Str (Int × Int)) (ho : Op w) (ha : In36 w.a) (hb : In36 w.b) (hd : In36 w.d) (h1 : Apt w.a w.b) (h2 : Apt w.a w.d)
    (ho2 : Op v) (ha2 : In36 v.a) (hb2 : In36 v.b) (hd2 : In36 v.d) (k1 : Apt v.a v.b) (k2 : Apt v.a v.d) (k3 : Apt v.a w.a) (k4 : Apt v.a w.b) (k5 : Apt v.a w.d) : m_are_works ([w, v], [], ()) = .ok true := by
  have f1 := field_ok w.a ha.1 ha.2.1 ha.2.2
  have f2 := field_ok w.b hb.1 hb.2.1 hb.2.2
  have f3 := field_ok w.d hd.1 hd.2.1 hd.2.2
  have f4 := field_ok v.a ha2.1 ha2.2.1 ha2.2.2
  have f5 := field_ok v.b hb2.1 hb2.2.1 hb2.2.2
  have f6 := field_ok v.d hd2.1 hd2.2.1 hd2.2.2
  have g1 := apart_ok _ _ h1
  have g2 := apart_ok _ _ h2
  have g3 := apart_ok _ _ k1
  have g4 := apart_ok _ _ k2
  have g5 := apart_ok _ _ k3
  have g6 := apart_ok _ _ k4
  have g7 := apart_ok _ _ k5
  have n := notin_ok ho
  have n2 := notin_ok ho2
  have c0 : cutL [w, v] none (some 0) = [] := rfl
  have c1 : cutL [w, v] none (some (0 + 1)) = [w] := rfl
  have c2 : cutL [w, v] none (some 1) = [w] := rfl
  have c3 : cutL [w, v] none (some (1 + 1)) = [w, v] := rfl
  have e : enumL [w, v] = [(0, w), (1, v)] := rfl
  have l0 : lcR ([] : List (T4 (Int × Int) (Int × Int) Str (Int × Int))) (fun _ => .ok true) (fun x => (.ok x.a : Res (Int × Int))) = .ok [] := rfl
  have l1 : lcR [w] (fun _ => .ok true) (fun x => (.ok x.a : Res (Int × Int))) = .ok [w.a] := rfl
  have hl : decide ((4 : Int) < (([w, v] : List (T4 (Int × Int) (Int × Int) Str (Int × Int))).length : Int)) = false := rfl
  have q0 : catL ([] : List (Int × Int)) [] = .ok [] := rfl
  have q1 : catL ([] : List (Int × Int)) [w.b, w.d] = .ok [w.b, w.d] := rfl
  have q2 : catL ([] : List (Int × Int)) [w.a] = .ok [w.a] := rfl
  have q3 : catL [w.a] [w.b, w.d] = .ok [w.a, w.b, w.d] := rfl
  have q4 : catL [w.a, w.b, w.d] [v.b, v.d] = .ok [w.a, w.b, w.d, v.b, v.d] := rfl
  unfold m_are_works b_are_works
  simp only [Res.ok_bind, hl, e, forR, n, n2, c0, c1, c2, c3, l0, l1, nox, f1, f2, f3, f4, f5, f6, g1, g2, g3, g4, g5, g6, g7, orR, Bool.not_true, Bool.false_eq_true, if_false, q0, q1, q2, q3, q4, Fl.goL]
  rfl
abbrev Wk := T4 (Int × Int) (Int × Int) Str (Int × Int)
theorem asking_ok (ws : List Wk) (h : m_are_works (ws, [], ()) = .ok true) : mk_Asking_5 ("pay", [], .non, [], some ws, ()) = .ok (Asking.mk "pay" [] .non [] ws 0 [] 6 []) := by
  have a1 : m_is_name ("pay", ()) = .ok true := by kernel_rfl
  have a2 : m_are_picks ([], ()) = .ok true := by kernel_rfl
  have a3 : m_is_middle (.non, "pay", ()) = .ok true := by kernel_rfl
  have a4 : m_is_board ([], ()) = .ok true := by kernel_rfl
  have a5 : m_main_field (.non, ()) = .ok [] := by kernel_rfl
  have q0 : catL ([] : List (Int × Int)) [] = .ok [] := rfl
  have l0 : lcR ([] : List ((Int × Int) × Str)) (fun _ => .ok true) (fun x => (.ok x.1 : Res (Int × Int))) = .ok [] := rfl
  have fit : m_Asking_is_fit (Asking.mk "pay" [] .non [] ws 0 [] 6 [], ()) = .ok true := by
    unfold m_Asking_is_fit b_Asking_is_fit
    simp only [Res.ok_bind, a1, a2, a3, a4, a5, orR, Bool.not_true, Bool.false_eq_true, if_false, q0, l0, nox, forR, Fl.goL, h]
    rfl
  unfold mk_Asking_5 cv_Asking_5 m_AskingU_initU b_AskingU_initU
  simp only [Res.ok_bind, OptL.get, Option.getD_some, Option.getD_none, fit, nox, Bool.not_true, Bool.false_eq_true, if_false]
  rfl
end CS
namespace CS
open Enc (enc)
open PySem PySem.Spec PyProof.Rows L2
section
variable {α : Type}
def put (l : List α) (p q : Nat) (d : List α) : List α := l.take p ++ d ++ l.drop q
def sub (l : List α) (r s : Nat) : List α := (l.drop r).take (s - r)
theorem put_get {l d : List α} {p q : Nat} (hp : p ≤ q) (hq : q ≤ l.length) (hd : d.length = q - p) (i : Nat) : (put l p q d)[i]? = if i < p then l[i]? else if i < q then d[i - p]? else l[i]? := by
  unfold put
  have hl : (l.take p).length = p := by rw [List.length_take]; omega
  by_cases h1 : i < p
  · rw [if_pos h1, List.getElem?_append_left (by rw [List.length_append]; omega), List.getElem?_append_left (by omega), List.getElem?_take, if_pos h1]
  · rw [if_neg h1]
    by_cases h2 : i < q
    · rw [if_pos h2, List.getElem?_append_left (by rw [List.length_append]; omega), List.getElem?_append_right (by omega), hl]
    · rw [if_neg h2, List.getElem?_append_right (by rw [List.length_append]; omega), List.getElem?_drop, List.length_append, hl]
      congr 1; omega
theorem put_len {l d : List α} {p q : Nat} (hp : p ≤ q) (hq : q ≤ l.length) (hd : d.length = q - p) : (put l p q d).length = l.length := by
  unfold put
  rw [List.length_append, List.length_append, List.length_take, List.length_drop]; omega
theorem sub_get (l : List α) (r s i : Nat) : (sub l r s)[i]? = if i < s - r then l[r + i]? else none := by
  unfold sub
  rw [List.getElem?_take]
  split
  · rw [List.getElem?_drop]
  · rfl
theorem sub_far {l d : List α} {p q r s : Nat} (hp : p ≤ q) (hq : q ≤ l.length) (hd : d.length = q - p) (h : q ≤ r ∨ s ≤ p) : sub (put l p q d) r s = sub l r s := by
  apply List.ext_getElem?
  intro i
  rw [sub_get, sub_get]
  by_cases h1 : i < s - r
  · rw [if_pos h1, if_pos h1, put_get hp hq hd]
    rcases h with h | h
    · rw [if_neg (by omega), if_neg (by omega)]
    · rw [if_pos (by omega)]
  · rw [if_neg h1, if_neg h1]
theorem sub_put {l d : List α} {p q : Nat} (hp : p ≤ q) (hq : q ≤ l.length) (hd : d.length = q - p) : sub (put l p q d) p q = d := by
  apply List.ext_getElem?
  intro i
  rw [sub_get]
  by_cases h1 : i < q - p
  · rw [if_pos h1, put_get hp hq hd, if_neg (by omega), if_pos (by omega)]
    congr 1; omega
  · rw [if_neg h1, List.getElem?_eq_none (by omega)]
theorem put_sub {l : List α} {p q : Nat} (hp : p ≤ q) (hq : q ≤ l.length) : put l p q (sub l p q) = l := by
  have hd : (sub l p q).length = q - p := by unfold sub; rw [List.length_take, List.length_drop]; omega
  apply List.ext_getElem?
  intro i
  rw [put_get hp hq hd]
  by_cases h1 : i < p
  · rw [if_pos h1]
  · rw [if_neg h1]
    by_cases h2 : i < q
    · rw [if_pos h2, sub_get, if_pos (by omega)]
      congr 1; omega
    · rw [if_neg h2]
end
theorem tl_inj {x y : Str} (h : x.cps.toList = y.cps.toList) : x = y := Str.ext' (Array.toList_inj.mp h)
theorem tl_app (x y : Str) : (x ++ y).cps.toList = x.cps.toList ++ y.cps.toList := by rw [Str.cps_append]; simp
theorem tl_len (x : Str) : x.cps.toList.length = x.length := by simp [Str.length]
theorem cut_pre (c : Str) (a : Int) (ha : 0 ≤ a) : (cutS c none (some a)).cps.toList = c.cps.toList.take a.toNat := by
  unfold cutS HT.sIx
  simp only [if_neg (show ¬ (a < 0) by omega)]
  rw [List.drop_zero, Nat.sub_zero]
  show c.cps.toList.take (min a.toNat c.length) = _
  rw [← tl_len, ← List.take_take, List.take_length]
theorem cut_suf (c : Str) (b : Int) (hb : 0 ≤ b) : (cutS c (some b) none).cps.toList = c.cps.toList.drop b.toNat := by
  unfold cutS HT.sIx
  simp only [if_neg (show ¬ (b < 0) by omega)]
  show (c.cps.toList.drop (min b.toNat c.length)).take (c.length - min b.toNat c.length) = _
  rw [← tl_len, List.take_of_length_le (by rw [List.length_drop]; omega)]
  by_cases h : b.toNat ≤ c.cps.toList.length
  · rw [Nat.min_eq_left h]
  · rw [Nat.min_eq_right (by omega), List.drop_length, List.drop_eq_nil_of_le (by omega)]
theorem cut_mid (c : Str) (a b : Int) (ha : 0 ≤ a) (hb : 0 ≤ b) : (cutS c (some a) (some b)).cps.toList = sub c.cps.toList a.toNat b.toNat := by
  unfold cutS HT.sIx sub
  simp only [if_neg (show ¬ (a < 0) by omega), if_neg (show ¬ (b < 0) by omega)]
  show (c.cps.toList.drop (min a.toNat c.length)).take (min b.toNat c.length - min a.toNat c.length) = _
  rw [← tl_len]
  apply List.ext_getElem?
  intro i
  rw [List.getElem?_take, List.getElem?_take, List.getElem?_drop, List.getElem?_drop]
  by_cases h : a.toNat ≤ c.cps.toList.length
  · rw [Nat.min_eq_left h]
    by_cases h1 : i < b.toNat - a.toNat
    · rw [if_pos h1]
      split
      · rfl
      · rw [List.getElem?_eq_none (by omega)]
    · rw [if_neg h1, if_neg (by omega)]
  · rw [if_neg (by omega)]
    split
    · rw [List.getElem?_eq_none (by omega)]
    · rfl
end CS
namespace CS
open Enc (enc)
open PySem PySem.Spec PyProof.Rows L2
abbrev tl (c : Str) : List Nat := c.cps.toList
abbrev fl (f : Int × Int) (l : List Nat) : List Nat := sub l (f.1 - 1).toNat f.2.toNat
theorem part_val (c : Str) (f : Int × Int) (hc : c.length ≤ SZ) : m_part_of (c, f, ()) = .ok (cutS c (some (f.1 - 1)) (some f.2)) := by
  unfold m_part_of b_part_of
  simp only [Res.ok_bind, cutR_ok hc, Fl.fin]
theorem num_same {c c' : Str} {f : Int × Int} (hc : c.length ≤ SZ) (hc' : c'.length ≤ SZ) (h1 : 1 ≤ f.1) (h2 : 0 ≤ f.2) (h : fl f (tl c) = fl f (tl c')) : m_number_of (c, f, ()) = m_number_of (c', f, ()) := by
  have e : cutS c (some (f.1 - 1)) (some f.2) = cutS c' (some (f.1 - 1)) (some f.2) := tl_inj (by rw [cut_mid _ _ _ (by omega) h2, cut_mid _ _ _ (by omega) h2]; exact h)
  unfold m_number_of b_number_of
  simp only [Res.ok_bind, part_val _ _ hc, part_val _ _ hc', e]
/-- what a work makes of a card -/
theorem work_put {c t : Str} {w : Wk} (h : WorkOf c w t) (a1 : 1 ≤ w.a.1) (a2 : w.a.1 ≤ w.a.2) : ∃ (nb nd v' : Int) (s' : Str), m_number_of (c, w.b, ()) = .ok nb ∧ m_number_of (c, w.d, ()) = .ok nd ∧ forR (rng 0 (w.a.2 - w.a.1 + 1)) (("" : Str), opv w.c nb nd, ()) F2 = .ok (.nx (s', v', ())) ∧
    (tl s').length = w.a.2.toNat - (w.a.1 - 1).toNat ∧ tl t = put (tl c) (w.a.1 - 1).toNat w.a.2.toNat (tl s') := by
  obtain ⟨nb, nd, v', s', e1, e2, e3, e4, e5⟩ := h.ex
  refine ⟨nb, nd, v', s', e1, e2, e3, by rw [tl_len]; omega, ?_⟩
  rw [e5]
  show (cutS c none (some (w.a.1 - 1)) ++ s' ++ cutS c (some w.a.2) none).cps.toList = _
  rw [tl_app, tl_app, cut_pre _ _ (by omega), cut_suf _ _ (by omega)]
  rfl
/-- the same inputs, the same signs -/
theorem work_two {c t c' t' : Str} {w : Wk} (h : WorkOf c w t) (h' : WorkOf c' w t') (hc : c.length ≤ SZ) (hc' : c'.length ≤ SZ) (a1 : 1 ≤ w.a.1) (a2 : w.a.1 ≤ w.a.2) (b1 : 1 ≤ w.b.1) (b2 : 0 ≤ w.b.2) (d1 : 1 ≤ w.d.1) (d2 : 0 ≤ w.d.2)
    (hb : fl w.b (tl c) = fl w.b (tl c')) (hd : fl w.d (tl c) = fl w.d (tl c')) : ∃ d : List Nat, d.length = w.a.2.toNat - (w.a.1 - 1).toNat ∧ tl t = put (tl c) (w.a.1 - 1).toNat w.a.2.toNat d ∧ tl t' = put (tl c') (w.a.1 - 1).toNat w.a.2.toNat d := by
  obtain ⟨nb, nd, v1, s1, e1, e2, e3, e4, e5⟩ := work_put h a1 a2
  obtain ⟨nb', nd', v2, s2, g1, g2, g3, g4, g5⟩ := work_put h' a1 a2
  have q1 := (num_same hc hc' b1 b2 hb).symm.trans e1
  have q2 := (num_same hc hc' d1 d2 hd).symm.trans e2
  rw [q1] at g1
  rw [q2] at g2
  cases g1; cases g2
  rw [e3] at g3
  cases g3
  exact ⟨tl s1, e4, e5, g5⟩
theorem far {l d : List Nat} {a f : Int × Int} (a1 : 1 ≤ a.1) (a2 : a.1 ≤ a.2) (hq : a.2.toNat ≤ l.length) (hd : d.length = a.2.toNat - (a.1 - 1).toNat) (f1 : 1 ≤ f.1) (h : Apt a f) : fl f (put l (a.1 - 1).toNat a.2.toNat d) = fl f l :=
  sub_far (by omega) hq hd (by rcases h with h | h <;> omega)
/-- a work done again changes nothing -/
theorem again_one {c t t2 : Str} {w : Wk} (h : WorkOf c w t) (h2 : WorkOf t w t2) (hc : c.length ≤ SZ) (ht : t.length ≤ SZ) (ha : In36 w.a) (hb : In36 w.b) (hd : In36 w.d) (k1 : Apt w.a w.b) (k2 : Apt w.a w.d) (hl : 36 ≤ c.length) : t2 = t := by
  obtain ⟨a1, a2, a3⟩ := ha
  obtain ⟨nb, nd, v1, s1, e1, e2, e3, e4, e5⟩ := work_put h a1 a2
  have hq : w.a.2.toNat ≤ (tl c).length := by show _ ≤ c.cps.toList.length; rw [tl_len]; omega
  have i1 : fl w.b (tl c) = fl w.b (tl t) := by rw [e5]; exact (far a1 a2 hq e4 hb.1 k1).symm
  have i2 : fl w.d (tl c) = fl w.d (tl t) := by rw [e5]; exact (far a1 a2 hq e4 hd.1 k2).symm
  obtain ⟨d, l1, p1, p2⟩ := work_two h h2 hc ht a1 a2 hb.1 (by have := hb.1; have := hb.2.1; omega) hd.1 (by have := hd.1; have := hd.2.1; omega) i1 i2
  have hp : (w.a.1 - 1).toNat ≤ w.a.2.toNat := by omega
  have e : sub (tl t) (w.a.1 - 1).toNat w.a.2.toNat = d := by rw [p1]; exact sub_put hp hq l1
  apply tl_inj
  show tl t2 = tl t
  rw [p2, ← e]
  refine put_sub hp ?_
  rw [p1, put_len hp hq l1]; exact hq
theorem again_two {c t1 t2 t3 t4 : Str} {w v : Wk} (h1 : WorkOf c w t1) (h2 : WorkOf t1 v t2) (h3 : WorkOf t2 w t3) (h4 : WorkOf t3 v t4) (hc : c.length ≤ SZ) (l1 : t1.length ≤ SZ) (l2 : t2.length ≤ SZ) (l3 : t3.length ≤ SZ)
    (ha : In36 w.a) (hb : In36 w.b) (hd : In36 w.d) (va : In36 v.a) (vb : In36 v.b) (vd : In36 v.d) (k1 : Apt w.a w.b) (k2 : Apt w.a w.d) (k3 : Apt v.a v.b) (k4 : Apt v.a v.d) (k5 : Apt v.a w.a) (k6 : Apt v.a w.b) (k7 : Apt v.a w.d) (hl : 36 ≤ c.length) : t4 = t2 := by
  obtain ⟨a1, a2, a3⟩ := ha
  obtain ⟨u1, u2, u3⟩ := va
  have pw : (w.a.1 - 1).toNat ≤ w.a.2.toNat := by omega
  have pv : (v.a.1 - 1).toNat ≤ v.a.2.toNat := by omega
  have up : ∀ {f : Int × Int}, In36 f → 0 ≤ f.2 := fun h => by have := h.1; have := h.2.1; omega
  have n0 : 36 ≤ (tl c).length := by show _ ≤ c.cps.toList.length; rw [tl_len]; exact hl
  obtain ⟨_, _, _, s1, _, _, _, e4, e5⟩ := work_put h1 a1 a2
  have n1 : (tl t1).length = (tl c).length := by rw [e5]; exact put_len pw (by omega) e4
  obtain ⟨_, _, _, s2, _, _, _, g4, g5⟩ := work_put h2 u1 u2
  have n2 : (tl t2).length = (tl c).length := by rw [g5, put_len pv (by omega) g4, n1]
  -- the first work again
  have i1 : fl w.b (tl c) = fl w.b (tl t2) := by
    rw [g5, far u1 u2 (by omega) g4 hb.1 k6, e5, far a1 a2 (by omega) e4 hb.1 k1]
  have i2 : fl w.d (tl c) = fl w.d (tl t2) := by
    rw [g5, far u1 u2 (by omega) g4 hd.1 k7, e5, far a1 a2 (by omega) e4 hd.1 k2]
  obtain ⟨d, m1, p1, p2⟩ := work_two h1 h3 hc l2 a1 a2 hb.1 (up hb) hd.1 (up hd) i1 i2
  have e : sub (tl t2) (w.a.1 - 1).toNat w.a.2.toNat = d := by
    show fl w.a (tl t2) = d
    rw [g5, far u1 u2 (by omega) g4 a1 k5, p1]
    exact sub_put pw (by omega) m1
  have t32 : t3 = t2 := tl_inj (by show tl t3 = tl t2; rw [p2, ← e]; exact put_sub pw (by omega))
  subst t32
  -- the second one again
  have j1 : fl v.b (tl t1) = fl v.b (tl t3) := by rw [g5, far u1 u2 (by omega) g4 vb.1 k3]
  have j2 : fl v.d (tl t1) = fl v.d (tl t3) := by rw [g5, far u1 u2 (by omega) g4 vd.1 k4]
  obtain ⟨d', m2, r1, r2⟩ := work_two h2 h4 l1 l2 u1 u2 vb.1 (up vb) vd.1 (up vd) j1 j2
  have e' : sub (tl t3) (v.a.1 - 1).toNat v.a.2.toNat = d' := by rw [r1]; exact sub_put pv (by omega) m2
  exact tl_inj (by show tl t4 = tl t3; rw [r2, ← e']; exact put_sub pv (by omega))
end CS
namespace CS
open Enc (enc)
open PySem PySem.Spec PyProof.Rows L2
theorem card_ok2 (z k : Int) (h0 : 0 ≤ k) (h1 : k < 1000) : ∃ t, m__law_card (z, k, ()) = .ok t ∧ t.length ≤ 7000 ∧ 36 ≤ t.length := by
  have a0 := Int.emod_nonneg z (b := 10 ^ 36) (by decide)
  have a1 := Int.emod_lt_of_pos z (b := 10 ^ 36) (by decide)
  have l1 : (z % 10 ^ 36).natAbs.log2 < 1920 := log_small (n := 120) (by omega) (by decide) (by decide)
  have l2 : k.natAbs.log2 < 1920 := log_small (n := 10) (by omega) (by decide) (by decide)
  have n1 := int_text_len_1921 l1
  have n2 := int_text_len_1921 l2
  have z1 := len_zfill (Str.ofString (toString (z % 10 ^ 36))) 36
  have z2 := len_zfill (Str.ofString (toString k)) 4
  have w1 : (Txt.zfill (Str.ofString (toString (z % 10 ^ 36))) 36).length ≤ 1921 := by split at z1 <;> omega
  have w2 : (Txt.zfill (Str.ofString (toString k)) 4).length ≤ 1921 := by split at z2 <;> omega
  have w3 : 36 ≤ (Txt.zfill (Str.ofString (toString (z % 10 ^ 36))) 36).length := by
    split at z1
    · omega
    · rename_i hh
      have hh : ¬ ((Str.ofString (toString (z % 10 ^ 36))).length : Int) < 36 := by simpa using hh
      omega
  generalize hA : Txt.zfill (Str.ofString (toString (z % 10 ^ 36))) 36 = A at w1 w3
  generalize hB : Txt.zfill (Str.ofString (toString k)) 4 = B at w2
  unfold m__law_card b__law_card
  have p1 : powR 10 36 = .ok (10 ^ 36) := okIf_pos (by decide)
  have p2 : modR z (10 ^ 36) = .ok (z % 10 ^ 36) := modR_ok (by decide)
  have p3 : strI (z % 10 ^ 36) = .ok (Str.ofString (toString (z % 10 ^ 36))) := okIf_pos l1
  have p4 : padR Txt.zfill (Str.ofString (toString (z % 10 ^ 36))) 36 = .ok A := by rw [← hA]; exact okIf_pos (by decide +kernel)
  have p5 : strI k = .ok (Str.ofString (toString k)) := okIf_pos l2
  have p6 : padR Txt.zfill (Str.ofString (toString k)) 4 = .ok B := by rw [← hB]; exact okIf_pos (by decide +kernel)
  have SZe : SZ = 16777216 := rfl
  simp only [Res.ok_bind, p1, p2, p3, p4, p5, p6, divR_ok (x := z) (y := 4) ⟨by decide, by decide⟩, modR_ok (y := 36) (by decide : (0 : Int) < 36), modR_ok (y := 4) (by decide : (0 : Int) < 4)]
  by_cases hc : 0 < z % 4
  · have c1 := Int.emod_lt_of_pos z (b := 4) (by decide)
    obtain ⟨g, hg, gl⟩ : ∃ g, getS " ZA" (z % 4 - 1) = .ok g ∧ g.length = 1 := by
      have : z % 4 = 1 ∨ z % 4 = 2 ∨ z % 4 = 3 := by omega
      rcases this with e | e | e <;> rw [e] <;> exact ⟨_, rfl, rfl⟩
    have c2 := cutS_length A none (some (z / 4 % 36))
    have c3 := cutS_length A (some (z / 4 % 36 + 1)) none
    have q0 := Int.emod_nonneg (z / 4) (b := 36) (by decide)
    have q1 := Int.emod_lt_of_pos (z / 4) (b := 36) (by decide)
    have c4 : (cutS A none (some (z / 4 % 36))).length = (z / 4 % 36).toNat := by rw [← tl_len, cut_pre _ _ q0, List.length_take, tl_len]; omega
    have c5 : (cutS A (some (z / 4 % 36 + 1)) none).length = A.length - (z / 4 % 36 + 1).toNat := by rw [← tl_len, cut_suf _ _ (by omega), List.length_drop, tl_len]
    simp only [hc, decide_true, if_true, hg, Res.ok_bind]
    rw [cutR_ok (by omega), Res.ok_bind, catS_ok (by omega), Res.ok_bind, cutR_ok (by omega), Res.ok_bind, catS_ok (by rw [Str.length_append]; omega)]
    simp only [Res.ok_bind, Fl.goL]
    rw [catS_ok (by rw [Str.length_append, Str.length_append]; omega)]
    exact ⟨_, rfl, by rw [Str.length_append, Str.length_append, Str.length_append]; omega, by rw [Str.length_append, Str.length_append, Str.length_append]; omega⟩
  · simp only [hc, decide_false, Bool.false_eq_true, if_false, Res.ok_bind, Fl.goL]
    rw [catS_ok (by omega)]
    exact ⟨_, rfl, by rw [Str.length_append]; omega, by rw [Str.length_append]; omega⟩

theorem lcG_ok {α β : Type} {f : α → Res β} {P : β → Prop} : ∀ {xs : List α}, (∀ x ∈ xs, ∃ y, f x = .ok y ∧ P y) → ∃ ys, lcG xs (fun _ => .ok true) f = .ok ys ∧ ys.length = xs.length ∧ ∀ y ∈ ys, P y
  | [], _ => ⟨[], rfl, rfl, fun y h => absurd h (by simp)⟩
  | x :: xs, h => by
    obtain ⟨y, e, p⟩ := h x (List.mem_cons_self ..)
    obtain ⟨ys, e2, l, q⟩ := lcG_ok (xs := xs) fun z hz => h z (List.mem_cons_of_mem _ hz)
    refine ⟨y :: ys, ?_, by simp [l], fun z hz => ?_⟩
    · rw [lcG, Res.ok_bind, if_pos rfl, e, Res.ok_bind, e2, Res.ok_bind]
    · rcases List.mem_cons.mp hz with r | r
      · rw [r]; exact p
      · exact q z r
theorem lcG_id {α : Type} {c : α → Res Bool} : ∀ {xs : List α}, (∀ x ∈ xs, c x = .ok true) → lcG xs c (fun x => .ok x) = .ok xs
  | [], _ => rfl
  | x :: xs, h => by rw [lcG, h x (List.mem_cons_self ..), Res.ok_bind, if_pos rfl, Res.ok_bind, lcG_id fun y hy => h y (List.mem_cons_of_mem _ hy), Res.ok_bind]
theorem deck_ok (xs : List Int) (hl : xs.length ≤ 40) : ∃ deck : List Str, lcR (enumL xs) (fun _ => .ok true) (fun x => m__law_card (x.2, x.1, ())) = .ok deck ∧ deck.length ≤ 40 ∧ ∀ c ∈ deck, c.length ≤ 7000 ∧ 36 ≤ c.length := by
  have le : (enumL xs).length = xs.length := by simp [enumL]
  obtain ⟨ys, e, l, p⟩ := lcG_ok (f := fun x : Int × Int => m__law_card (x.2, x.1, ())) (P := fun c => c.length ≤ 7000 ∧ 36 ≤ c.length) (xs := enumL xs) fun x hx => by
    unfold enumL at hx
    obtain ⟨q, hq, rfl⟩ := List.mem_map.mp hx
    have := List.snd_lt_of_mem_zipIdx hq
    exact card_ok2 q.1 (q.2 : Int) (by omega) (by omega)
  exact ⟨ys, by rw [lcR, if_pos (by rw [le]; have : SZ = 16777216 := rfl; omega)]; exact e, by omega, p⟩
abbrev FW {ρ : Type} : Wk → Str × Unit → Res (Fl (Str × Unit) ρ) := fun x s => (m_work_card (s.1, x, ())).bind fun card => .ok (.nx (card, ()))
abbrev FL {ρ : Type} : Wk → Str × Unit → Res (Fl (Str × Unit) ρ) := fun x s => (m__law_worked (s.1, x, ())).bind fun card => .ok (.nx (card, ()))
/-- the works of the law: done as the law says, and done again -/
def GoodWs (ws : List Wk) : Prop := ∀ c : Str, c.length ≤ 7000 → 36 ≤ c.length → ∃ t : Str, forR (ρ := List Str) ws (c, ()) FW = .ok (.nx (t, ())) ∧ forR (ρ := Bool) ws (c, ()) FL = .ok (.nx (t, ())) ∧ forR (ρ := List Str) ws (t, ()) FW = .ok (.nx (t, ()))
theorem len_put {c t : Str} {w : Wk} (h : WorkOf c w t) (a1 : 1 ≤ w.a.1) (a2 : w.a.1 ≤ w.a.2) (a3 : w.a.2 ≤ 36) (hl : 36 ≤ c.length) : t.length = c.length := by
  obtain ⟨_, _, _, s1, _, _, _, e4, e5⟩ := work_put h a1 a2
  rw [← tl_len t, ← tl_len c]
  show (tl t).length = _
  rw [e5, put_len (by omega) (by show _ ≤ c.cps.toList.length; rw [tl_len]; omega) e4]
theorem good_one {w : Wk} (F : Fits w) (ha : In36 w.a) (hb : In36 w.b) (hd : In36 w.d) (k1 : Apt w.a w.b) (k2 : Apt w.a w.d) : GoodWs [w] := by
  have SZe : SZ = 16777216 := rfl
  intro c hc hl
  obtain ⟨t, e1, e2, lt, wo⟩ := works_eq c w (by omega) F
  have l1 := len_put wo ha.1 ha.2.1 ha.2.2 hl
  obtain ⟨t2, g1, g2, _, wo2⟩ := works_eq t w (by omega) F
  have e := again_one wo wo2 (by omega) (by omega) ha hb hd k1 k2 hl
  subst e
  refine ⟨t2, ?_, ?_, ?_⟩
  · simp only [forR, FW, e1, Res.ok_bind]
  · simp only [forR, FL, e2, Res.ok_bind]
  · simp only [forR, FW, g1, Res.ok_bind]
theorem good_two {w v : Wk} (F : Fits w) (F2 : Fits v) (ha : In36 w.a) (hb : In36 w.b) (hd : In36 w.d) (va : In36 v.a) (vb : In36 v.b) (vd : In36 v.d) (k1 : Apt w.a w.b) (k2 : Apt w.a w.d) (k3 : Apt v.a v.b) (k4 : Apt v.a v.d) (k5 : Apt v.a w.a) (k6 : Apt v.a w.b) (k7 : Apt v.a w.d) : GoodWs [w, v] := by
  have SZe : SZ = 16777216 := rfl
  intro c hc hl
  obtain ⟨t1, e1, e2, _, wo⟩ := works_eq c w (by omega) F
  have l1 := len_put wo ha.1 ha.2.1 ha.2.2 hl
  obtain ⟨t2, g1, g2, _, wo2⟩ := works_eq t1 v (by omega) F2
  have l2 := len_put wo2 va.1 va.2.1 va.2.2 (by omega)
  obtain ⟨t3, u1, u2, _, wo3⟩ := works_eq t2 w (by omega) F
  have l3 := len_put wo3 ha.1 ha.2.1 ha.2.2 (by omega)
  obtain ⟨t4, v1, v2, _, wo4⟩ := works_eq t3 v (by omega) F2
  have e := again_two wo wo2 wo3 wo4 (by omega) (by omega) (by omega) (by omega) ha hb hd va vb vd k1 k2 k3 k4 k5 k6 k7 hl
  subst e
  refine ⟨t4, ?_, ?_, ?_⟩
  · simp only [forR, FW, e1, g1, Res.ok_bind]
  · simp only [forR, FL, e2, g2, Res.ok_bind]
  · simp only [forR, FW, u1, v1, Res.ok_bind]
end CS
namespace CS
open Enc (enc)
open PySem PySem.Spec PyProof.Rows L2
theorem keys_nil {kf : Str → Res (List Int)} (h : ∀ x, kf x = .ok []) : ∀ xs : List Str, keysR kf xs = .ok (xs.map fun _ => [])
  | [] => rfl
  | x :: xs => by rw [keysR, h, Res.ok_bind, keys_nil h xs, Res.ok_bind]; rfl
theorem pair_nil : ∀ xs : List Str, (xs.zip (xs.map fun _ => ([] : List Int))).Pairwise (fun a b => decide (a.2 ≤ b.2) = true)
  | [] => .nil
  | x :: xs => by
    rw [List.map_cons, List.zip_cons_cons]
    refine .cons (fun p _ => ?_) (pair_nil xs)
    exact decide_eq_true (List.nil_le _)
theorem sort_nil {kf : Str → Res (List Int)} (h : ∀ x, kf x = .ok []) (xs : List Str) (hl : xs.length ≤ SZ) : sortK kf xs = .ok xs := by
  unfold sortK
  rw [keys_nil h xs]
  simp only [nox, Res.ok_bind]
  have hp : (xs.zip (xs.map fun _ => ([] : List Int))).Pairwise (fun a b => decide (a.2 ≤ b.2) = true) := pair_nil xs
  rw [List.mergeSort_of_pairwise hp, okIf_pos hl]
  congr 1
  rw [List.map_fst_zip (by simp)]
theorem in_order_nil (xs : List Str) (hl : xs.length ≤ SZ) : m_in_order (xs, [], ()) = .ok xs := by
  unfold m_in_order b_in_order
  simp only [Res.ok_bind]
  rw [sort_nil (kf := fun x_584 => nox (lcR ([] : List Int) (fun _ => .ok true) fun x_585 => ((getS x_584 (x_585 - 1)).bind fun a => .ok (a, ())).bind m_rank_of)) (fun x => rfl) xs hl]
  rfl
theorem outer {ρ : Type} {g : Str → Str} {F : Str → List Str × Unit → Res (Fl (List Str × Unit) ρ)} : ∀ (deck acc : List Str), (∀ c ∈ deck, ∀ (acc : List Str), acc.length < SZ → F c (acc, ()) = .ok (.nx (acc ++ [g c], ()))) → acc.length + deck.length ≤ SZ → forR deck (acc, ()) F = .ok (.nx (acc ++ deck.map g, ()))
  | [], acc, _, _ => by rw [forR]; simp
  | c :: deck, acc, hF, h => by
    rw [List.length_cons] at h
    rw [forR, hF c (List.mem_cons_self ..) acc (by omega), Res.ok_bind]
    show forR deck (acc ++ [g c], ()) F = _
    rw [outer deck _ (fun c hc => hF c (List.mem_cons_of_mem _ hc)) (by rw [List.length_append, List.length_singleton]; omega)]
    simp
abbrev Ask (ws : List Wk) : Asking := Asking.mk "pay" [] .non [] ws 0 [] 6 []
theorem chosen_ok (ws : List Wk) (deck : List Str) (g : Str → Str) (hl : deck.length ≤ 40) (hg : ∀ c ∈ deck, forR (ρ := List Str) ws (c, ()) FW = .ok (.nx (g c, ()))) : m_chosen_deck (Ask ws, Dct.mk [("pay", deck)], ()) = .ok (deck.map g) := by
  have SZe : SZ = 16777216 := rfl
  have e1 : m_deck_in (Dct.mk [("pay", deck)], "pay", ()) = .ok deck := by
    have : dgetR [(("pay" : Str), deck)] "pay" = .ok deck := by simp [dgetR, dget]
    unfold m_deck_in b_deck_in
    simp only [Res.ok_bind, this, nox, Fl.goL, Fl.fin]
  have e2 : lcR deck (fun x => m_is_picked (x, [], ())) (fun x => (.ok x : Res Str)) = .ok deck := by
    rw [lcR, if_pos (by omega)]
    exact lcG_id fun x _ => rfl
  have e3 : m_behind_middle (deck, .non, Dct.mk [("pay", deck)], ()) = .ok deck := by
    unfold m_behind_middle b_behind_middle
    rfl
  have e4 := in_order_nil deck (by omega)
  unfold m_chosen_deck b_chosen_deck
  simp only [Res.ok_bind, e1, e2, e3, nox, forR, Fl.goL, e4]
  rw [outer (g := g) deck [] (fun c hc acc ha => ?_) (by rw [List.length_nil]; omega)]
  · rfl
  · have q := hg c hc
    show ((forR ws (c, ()) FW).bind _ : Res (Fl (List Str × Unit) (List Str))) = _
    rw [q]
    simp only [Res.ok_bind, chk, if_pos ha]
theorem modcase (z : Int) (n : Int) (h : 0 < n) : 0 ≤ z % n ∧ z % n < n := ⟨Int.emod_nonneg z (Int.ne_of_gt h), Int.emod_lt_of_pos z h⟩
theorem word_ok (z : Int) : ∃ c : Str, getI [("plus" : Str), "less", "times"] (z % 3) = .ok c ∧ (c = "plus" ∨ c = "less" ∨ c = "times") := by
  have := modcase z 3 (by decide)
  have : z % 3 = 0 ∨ z % 3 = 1 ∨ z % 3 = 2 := by omega
  rcases this with e | e | e <;> rw [e]
  · exact ⟨"plus", rfl, .inl rfl⟩
  · exact ⟨"less", rfl, .inr (.inl rfl)⟩
  · exact ⟨"times", rfl, .inr (.inr rfl)⟩
theorem pick_ok (z : Int) (f g : Int × Int) : ∃ c : Int × Int, getI [f, g] (z % 2) = .ok c ∧ (c = f ∨ c = g) := by
  have := modcase z 2 (by decide)
  have : z % 2 = 0 ∨ z % 2 = 1 := by omega
  rcases this with e | e <;> rw [e]
  · exact ⟨f, rfl, .inl rfl⟩
  · exact ⟨g, rfl, .inr rfl⟩
/-- the law's end, when the works are good -/
theorem law_end (deck : List Str) (ws : List Wk) (g : Str → Str) (hl : deck.length ≤ 40) (h1 : ∀ c ∈ deck, forR (ρ := List Str) ws (c, ()) FW = .ok (.nx (g c, ()))) (h2 : ∀ c ∈ deck, forR (ρ := Bool) ws (c, ()) FL = .ok (.nx (g c, ()))) (h3 : ∀ c ∈ deck, forR (ρ := List Str) ws (g c, ()) FW = .ok (.nx (g c, ()))) :
    m_chosen_deck (Ask ws, Dct.mk [("pay", deck)], ()) = .ok (deck.map g) ∧ m_chosen_deck (Ask ws, Dct.mk [("pay", deck.map g)], ()) = .ok (deck.map g) := by
  refine ⟨chosen_ok ws deck g hl h1, ?_⟩
  have e := chosen_ok ws (deck.map g) (fun c => c) (by rw [List.length_map]; exact hl) fun c hc => by
    obtain ⟨x, hx, rfl⟩ := List.mem_map.mp hc
    exact h3 x hx
  rw [e, List.map_id']
end CS
namespace CS
open Enc (enc)
open PySem PySem.Spec PyProof.Rows L2
theorem pure_law0 (ns : List Int) : m_law (⟨ns⟩, ()) = .ok true := by
  have SZe : SZ = 16777216 := rfl
  obtain ⟨z0, c0⟩ := cell_ok ns 0 (by decide) (by decide)
  obtain ⟨z1, c1⟩ := cell_ok ns 1 (by decide) (by decide)
  obtain ⟨z2, c2⟩ := cell_ok ns 2 (by decide) (by decide)
  obtain ⟨o1, o2, w1, o3, o4, o5⟩ := within_ok z1 13 12 (by decide) (by decide)
  obtain ⟨p1, p2, w2, p3, p4, p5⟩ := within_ok z2 25 12 (by decide) (by decide)
  obtain ⟨f1, f2, w3, f3, f4, f5⟩ := within_ok (z0 / 18) 1 6 (by decide) (by decide)
  obtain ⟨t1, t2, w4, t3, t4, t5⟩ := within_ok (z0 / 36) 7 6 (by decide) (by decide)
  obtain ⟨x1, g1, x2⟩ := word_ok z0
  obtain ⟨y1, g2, y2⟩ := word_ok (z0 / 6)
  obtain ⟨k1, g3, k2⟩ := pick_ok (z0 / 6) (f1, f2) (p1, p2)
  have lcut : (cutL ns (some 3) (some 43)).length ≤ 40 := by
    unfold cutL HT.sIx
    simp only [List.length_take, List.length_drop]
    simp only [if_neg (show ¬ ((3 : Int) < 0) by decide), if_neg (show ¬ ((43 : Int) < 0) by decide)]
    have a1 : (3 : Int).toNat = 3 := rfl
    have a2 : (43 : Int).toNat = 43 := rfl
    rw [a1, a2]
    omega
  have d18 : divR z0 18 = .ok (z0 / 18) := divR_ok ⟨by decide, by decide⟩
  have d36 : divR z0 36 = .ok (z0 / 36) := divR_ok ⟨by decide, by decide⟩
  have d3 : divR z0 3 = .ok (z0 / 3) := divR_ok ⟨by decide, by decide⟩
  have d6 : divR z0 6 = .ok (z0 / 6) := divR_ok ⟨by decide, by decide⟩
  have m3 : modR z0 3 = .ok (z0 % 3) := modR_ok (by decide)
  have m2 : modR (z0 / 3) 2 = .ok (z0 / 3 % 2) := modR_ok (by decide)
  have m62 : modR (z0 / 6) 2 = .ok (z0 / 6 % 2) := modR_ok (by decide)
  have m63 : modR (z0 / 6) 3 = .ok (z0 / 6 % 3) := modR_ok (by decide)
  have F1 : Fits ⟨(f1, f2), (o1, o2), x1, (p1, p2)⟩ := ⟨by simp only; omega, by simp only; omega, by simp only; omega, by simp only; omega, by simp only; omega, by simp only; omega, by simp only; omega, by simp only; omega, by simp only; omega, x2⟩
  have ia : In36 (f1, f2) := ⟨by simp only; omega, by simp only; omega, by simp only; omega⟩
  have ib : In36 (o1, o2) := ⟨by simp only; omega, by simp only; omega, by simp only; omega⟩
  have ic : In36 (p1, p2) := ⟨by simp only; omega, by simp only; omega, by simp only; omega⟩
  have it : In36 (t1, t2) := ⟨by simp only; omega, by simp only; omega, by simp only; omega⟩
  have ap1 : Apt (f1, f2) (o1, o2) := .inl (by simp only; omega)
  have ap2 : Apt (f1, f2) (p1, p2) := .inl (by simp only; omega)
  have ap3 : Apt (t1, t2) (o1, o2) := .inl (by simp only; omega)
  have ap4 : Apt (t1, t2) (p1, p2) := .inl (by simp only; omega)
  have ap5 : Apt (t1, t2) (f1, f2) := .inr (by simp only; omega)
  have ik : In36 k1 := by rcases k2 with e | e <;> rw [e] <;> assumption
  have apk : Apt (t1, t2) k1 := by rcases k2 with e | e <;> rw [e] <;> assumption
  have wk : 1 ≤ k1.1 ∧ k1.1 ≤ k1.2 ∧ k1.2 ≤ k1.1 + 15 := by rcases k2 with e | e <;> rw [e] <;> refine ⟨?_, ?_, ?_⟩ <;> simp only <;> omega
  unfold m_law b_law
  simp only [Res.ok_bind, c0, c1, c2, w1, w2, w3, d18, m3, g1, d3, m2]
  by_cases hc : z0 / 3 % 2 = 1
  · have F2 : Fits ⟨(t1, t2), k1, y1, (o1, o2)⟩ := ⟨by simp only; omega, by simp only; omega, by simp only; omega, wk.1, wk.2.1, wk.2.2, by simp only; omega, by simp only; omega, by simp only; omega, y2⟩
    have GW := good_two F1 F2 ia ib ic it ik ib ap1 ap2 apk ap3 ap5 ap3 ap4
    have AW := works2_ok ⟨(f1, f2), (o1, o2), x1, (p1, p2)⟩ ⟨(t1, t2), k1, y1, (o1, o2)⟩ x2 ia ib ic ap1 ap2 y2 it ik ib apk ap3 ap5 ap3 ap4
    simp only [hc, decide_true, if_true, Res.ok_bind, d36, w4, d6, m62, g3, m63, g2]
    rw [show chk _ _ = _ from if_pos (by simp only [List.length_singleton]; omega)]
    simp only [List.singleton_append, List.cons_append, List.nil_append]

    obtain ⟨deck, hd, ld, pd⟩ := deck_ok (cutL ns (some 3) (some 43)) lcut
    obtain ⟨g, hg⟩ := Classical.skolem.mp (fun c : Str => (show ∃ t : Str, c ∈ deck → forR (ρ := List Str) [(⟨(f1, f2), (o1, o2), x1, (p1, p2)⟩ : Wk), ⟨(t1, t2), k1, y1, (o1, o2)⟩] (c, ()) FW = .ok (.nx (t, ())) ∧ forR (ρ := Bool) [(⟨(f1, f2), (o1, o2), x1, (p1, p2)⟩ : Wk), ⟨(t1, t2), k1, y1, (o1, o2)⟩] (c, ()) FL = .ok (.nx (t, ())) ∧ forR (ρ := List Str) [(⟨(f1, f2), (o1, o2), x1, (p1, p2)⟩ : Wk), ⟨(t1, t2), k1, y1, (o1, o2)⟩] (t, ()) FW = .ok (.nx (t, ())) from by
      by_cases hc : c ∈ deck
      · obtain ⟨t, ht⟩ := GW c (pd c hc).1 (pd c hc).2
        exact ⟨t, fun _ => ht⟩
      · exact ⟨c, fun h => absurd h hc⟩))
    obtain ⟨r1, r2⟩ := law_end deck [(⟨(f1, f2), (o1, o2), x1, (p1, p2)⟩ : Wk), ⟨(t1, t2), k1, y1, (o1, o2)⟩] g ld (fun c hc => (hg c hc).1) (fun c hc => (hg c hc).2.1) (fun c hc => (hg c hc).2.2)
    have as := asking_ok [(⟨(f1, f2), (o1, o2), x1, (p1, p2)⟩ : Wk), ⟨(t1, t2), k1, y1, (o1, o2)⟩] AW
    have dn : dneR (Dct.mk [(("pay" : Str), deck)]) (Dct.mk [(("pay" : Str), deck)]) = .ok false := okIf_pos ⟨rfl, by simp⟩
    simp only [Fl.goL, Res.ok_bind, hd, nox]
    rw [outer (g := g) deck [] (fun c hc acc ha => ?_) (by rw [List.length_nil]; omega)]
    · simp only [Res.ok_bind, Fl.goL, Res.map, as, nox, List.nil_append, r1, orR, Bool.not_true, Bool.false_eq_true, if_false, decide_true, dn, r2, andR, if_true]
      rfl
    · have q := (hg c hc).2.1
      show ((forR [(⟨(f1, f2), (o1, o2), x1, (p1, p2)⟩ : Wk), ⟨(t1, t2), k1, y1, (o1, o2)⟩] (c, ()) FL).bind _ : Res (Fl (List Str × Unit) Bool)) = _
      rw [q]
      simp only [Res.ok_bind, chk, if_pos ha]
  · have GW := good_one F1 ia ib ic ap1 ap2
    have AW := works1_ok ⟨(f1, f2), (o1, o2), x1, (p1, p2)⟩ x2 ia ib ic ap1 ap2
    simp only [hc, decide_false, Bool.false_eq_true, if_false, Res.ok_bind]

    obtain ⟨deck, hd, ld, pd⟩ := deck_ok (cutL ns (some 3) (some 43)) lcut
    obtain ⟨g, hg⟩ := Classical.skolem.mp (fun c : Str => (show ∃ t : Str, c ∈ deck → forR (ρ := List Str) [(⟨(f1, f2), (o1, o2), x1, (p1, p2)⟩ : Wk)] (c, ()) FW = .ok (.nx (t, ())) ∧ forR (ρ := Bool) [(⟨(f1, f2), (o1, o2), x1, (p1, p2)⟩ : Wk)] (c, ()) FL = .ok (.nx (t, ())) ∧ forR (ρ := List Str) [(⟨(f1, f2), (o1, o2), x1, (p1, p2)⟩ : Wk)] (t, ()) FW = .ok (.nx (t, ())) from by
      by_cases hc : c ∈ deck
      · obtain ⟨t, ht⟩ := GW c (pd c hc).1 (pd c hc).2
        exact ⟨t, fun _ => ht⟩
      · exact ⟨c, fun h => absurd h hc⟩))
    obtain ⟨r1, r2⟩ := law_end deck [(⟨(f1, f2), (o1, o2), x1, (p1, p2)⟩ : Wk)] g ld (fun c hc => (hg c hc).1) (fun c hc => (hg c hc).2.1) (fun c hc => (hg c hc).2.2)
    have as := asking_ok [(⟨(f1, f2), (o1, o2), x1, (p1, p2)⟩ : Wk)] AW
    have dn : dneR (Dct.mk [(("pay" : Str), deck)]) (Dct.mk [(("pay" : Str), deck)]) = .ok false := okIf_pos ⟨rfl, by simp⟩
    simp only [Fl.goL, Res.ok_bind, hd, nox]
    rw [outer (g := g) deck [] (fun c hc acc ha => ?_) (by rw [List.length_nil]; omega)]
    · simp only [Res.ok_bind, Fl.goL, Res.map, as, nox, List.nil_append, r1, orR, Bool.not_true, Bool.false_eq_true, if_false, decide_true, dn, r2, andR, if_true]
      rfl
    · have q := (hg c hc).2.1
      show ((forR [(⟨(f1, f2), (o1, o2), x1, (p1, p2)⟩ : Wk)] (c, ()) FL).bind _ : Res (Fl (List Str × Unit) Bool)) = _
      rw [q]
      simp only [Res.ok_bind, chk, if_pos ha]

end CS
namespace CS
open Enc (enc)
open PySem PySem.Spec PyProof.Rows L2
/-! ### the head -/
def dn : List He.DefD := [⟨("columns_of", none), "columns_of", "columns_of", defArgs (top 17), defBody (top 17), defScope (top 17), [], []⟩, ⟨("are_apart", none), "are_apart", "are_apart", defArgs (top 18), defBody (top 18), defScope (top 18), [], []⟩, ⟨("part_of", none), "part_of", "part_of", defArgs (top 19), defBody (top 19), defScope (top 19), [], []⟩, ⟨("is_name", none), "is_name", "is_name", defArgs (top 33), defBody (top 33), defScope (top 33), [], []⟩, ⟨("is_field", none), "is_field", "is_field", defArgs (top 34), defBody (top 34), defScope (top 34), [], []⟩, ⟨("is_card", none), "is_card", "is_card", defArgs (top 11), defBody (top 11), defScope (top 11), [], []⟩, ⟨("number_of", none), "number_of", "number_of", defArgs (top 20), defBody (top 20), defScope (top 20), [], []⟩, ⟨("punch_in", none), "punch_in", "punch_in", defArgs (top 21), defBody (top 21), defScope (top 21), [], []⟩, ⟨("work_card", none), "work_card", "work_card", defArgs (top 23), defBody (top 23), defScope (top 23), [], []⟩, ⟨("is_picked", none), "is_picked", "is_picked", defArgs (top 27), defBody (top 27), defScope (top 27), [], []⟩, ⟨("first_of_each", none), "first_of_each", "first_of_each", defArgs (top 28), defBody (top 28), defScope (top 28), [], []⟩, ⟨("rank_of", none), "rank_of", "rank_of", defArgs (top 10), defBody (top 10), defScope (top 10), [], []⟩, ⟨("card_of", none), "card_of", "card_of", defArgs (top 12), defBody (top 12), defScope (top 12), [], []⟩, ⟨("make_board", none), "make_board", "make_board", defArgs (top 14), defBody (top 14), defScope (top 14), [], []⟩, ⟨("is_wide", none), "is_wide", "is_wide", defArgs (top 35), defBody (top 35), defScope (top 35), [], []⟩, ⟨("is_board", none), "is_board", "is_board", defArgs (top 36), defBody (top 36), defScope (top 36), [], []⟩, ⟨("are_picks", none), "are_picks", "are_picks", defArgs (top 37), defBody (top 37), defScope (top 37), [], []⟩, ⟨("is_middle", none), "is_middle", "is_middle", defArgs (top 38), defBody (top 38), defScope (top 38), [], []⟩, ⟨("main_field", none), "main_field", "main_field", defArgs (top 39), defBody (top 39), defScope (top 39), [], []⟩, ⟨("are_works", none), "are_works", "are_works", defArgs (top 40), defBody (top 40), defScope (top 40), [], []⟩, ⟨("Asking", some "is_fit"), "is_fit", "Asking.is_fit", defArgs (inClass (top 41) 1), defBody (inClass (top 41) 1), defScope (inClass (top 41) 1), [], []⟩, ⟨("Asking", some "__init__"), "__init__", "Asking.__init__", defArgs (inClass (top 41) 0), defBody (inClass (top 41) 0), defScope (inClass (top 41) 0), [.non, .int 0, .non, .int 6, .non], []⟩, ⟨("deck_in", none), "deck_in", "deck_in", defArgs (top 25), defBody (top 25), defScope (top 25), [], []⟩, ⟨("in_order", none), "in_order", "in_order", defArgs (top 26), defBody (top 26), defScope (top 26), [], []⟩, ⟨("behind_middle", none), "behind_middle", "behind_middle", defArgs (top 29), defBody (top 29), defScope (top 29), [], []⟩, ⟨("chosen_deck", none), "chosen_deck", "chosen_deck", defArgs (top 30), defBody (top 30), defScope (top 30), [], []⟩, ⟨("_law_cell", none), "_law_cell", "_law_cell", defArgs (top 43), defBody (top 43), defScope (top 43), [], []⟩, ⟨("_law_card", none), "_law_card", "_law_card", defArgs (top 44), defBody (top 44), defScope (top 44), [], []⟩, ⟨("_law_within", none), "_law_within", "_law_within", defArgs (top 45), defBody (top 45), defScope (top 45), [], []⟩, ⟨("_law_number", none), "_law_number", "_law_number", defArgs (top 46), defBody (top 46), defScope (top 46), [], []⟩, ⟨("_law_worked", none), "_law_worked", "_law_worked", defArgs (top 47), defBody (top 47), defScope (top 47), [], []⟩, ⟨("law", none), "law", "law", defArgs (top 48), defBody (top 48), defScope (top 48), [], []⟩]
def fa : List He.Fa := [.glo "columns_of", .glo "are_apart", .glo "part_of", .glo "is_name", .glo "is_field", .glo "is_card", .glo "number_of", .glo "punch_in", .glo "work_card", .glo "is_picked", .glo "first_of_each", .glo "rank_of", .glo "card_of", .glo "make_board", .glo "is_wide", .glo "is_board", .glo "are_picks", .glo "is_middle", .glo "main_field", .glo "are_works", .glo "deck_in", .glo "in_order", .glo "behind_middle", .glo "chosen_deck", .glo "_law_cell", .glo "_law_card", .glo "_law_within", .glo "_law_number", .glo "_law_worked", .glo "law", .glo "Asking", .free "divmod", .free "enumerate", .free "int", .free "isinstance", .free "len", .free "list", .free "min", .free "range", .free "sorted", .free "str", .free "zip", .str "FIGURES" "0123456789", .str "LETTERS" "abcdefghijklmnopqrstuvwxyz", .str "SIGNS" " 0123456789ABCDEFGHIJKLMNOPQRSTUVWXYZ", .int "WIDTH" 40, .cls "Asking", .noat "Asking" "deck", .noat "Asking" "picks", .noat "Asking" "middle", .noat "Asking" "order", .noat "Asking" "works", .noat "Asking" "breaks", .noat "Asking" "sums", .noat "Asking" "figures", .noat "Asking" "board", .mkr "Asking", .meth "Asking" "is_fit"]
def tf : List He.Defn := [("in_order", none)]
abbrev RR : PySem.W.OpenRow := PySem.W.OpenLaw.row PySem.Challenge.rw_cardshop_k51_worked
abbrev hk : PySem.W.Hook := He.hookX 5 fa dn [] tf (fun _ => true)
def obs (s : PySem.W.SharedT) : He.AlX := He.obsX 5 fa dn [] tf (fun _ => true) (HandSHeadRun.getT s)
theorem obs_eq (s : PySem.W.SharedT) : obs s = hk.obs s.abs := He.obsX_eq (HandSHeadRun.getT_eq s)
def loose : List Str := (["__name__", "ShopError", "NoCard", "NoBoard", "Meet", "NoAsking", "NoTray", "SIGNS", "WIDTH", "rank_of", "is_card", "card_of", "make_board", "FIGURES", "columns_of", "are_apart", "part_of", "number_of", "punch_in", "work_card", "deck_in", "in_order", "is_picked", "first_of_each", "behind_middle", "chosen_deck", "LETTERS", "is_name", "is_field", "is_wide"] : List Str) ++ (["is_board", "are_picks", "is_middle", "main_field", "are_works", "Asking", "_law_cell", "_law_card", "_law_within", "_law_number", "_law_worked"] : List Str)
theorem run (w : World) : HandSHeadRun.RunEq RR (PySem.W.view RR.prog [48]) hk obs 6000 loose w := by
  intro os
  kernel_rfl
abbrev gv (K : PySem.W.Frag) : Gv := gvOf K (fun i => if i = 0 then He.ga K "Asking" else 0) (fun _ => .none) [((He.cT K ("in_order", none)).2, "in_order.<locals>.<lambda>")]
theorem facts {P : Program} {w : World} {K : PySem.W.Frag} {h : Heap} {mg : Str → Option Value} {fl : Addr} (X : K.In h) (N : h.Ns mainGlobals mg) (hfa : mg "law" = some (.ref fl)) (c : He.SaysX fa dn [] tf (fun _ => true) w h K) :
    ∃ fd : FuncData, (∀ (s : Shared) (v : Value), BindsTo s fd ⟨[v], []⟩ [("_law_script", v)]) ∧ ∀ base : Heap, K.In base → base.Ns mainGlobals mg → (∀ p ∈ tf, LamX.TabB base mg (He.cT K p).1 (He.cT K p).2) → FnOk P w K mg base (L2.CX P w) 8 fl fd ["_law_script"] (LawSp (gv K) m_law) := by
  have B : Bn (gv K) K mg := ⟨He.free_ok X N (c.t.d.fact 31 (f := .free "divmod") rfl), He.free_ok X N (c.t.d.fact 32 (f := .free "enumerate") rfl), He.free_ok X N (c.t.d.fact 33 (f := .free "int") rfl), He.free_ok X N (c.t.d.fact 34 (f := .free "isinstance") rfl), He.free_ok X N (c.t.d.fact 35 (f := .free "len") rfl), He.free_ok X N (c.t.d.fact 36 (f := .free "list") rfl), He.free_ok X N (c.t.d.fact 37 (f := .free "min") rfl), He.free_ok X N (c.t.d.fact 38 (f := .free "range") rfl), He.free_ok X N (c.t.d.fact 39 (f := .free "sorted") rfl), He.free_ok X N (c.t.d.fact 40 (f := .free "str") rfl), He.free_ok X N (c.t.d.fact 41 (f := .free "zip") rfl), He.str_ok X N (c.t.d.fact 42 (f := .str "FIGURES" "0123456789") rfl), He.str_ok X N (c.t.d.fact 43 (f := .str "LETTERS" "abcdefghijklmnopqrstuvwxyz") rfl), He.str_ok X N (c.t.d.fact 44 (f := .str "SIGNS" " 0123456789ABCDEFGHIJKLMNOPQRSTUVWXYZ") rfl), He.int_ok X N (c.t.d.fact 45 (f := .int "WIDTH" 40) rfl), He.cls_ok (c.t.d.fact 46 (f := .cls "Asking") rfl), He.noat_ok (c.t.d.fact 47 (f := .noat "Asking" "deck") rfl), He.noat_ok (c.t.d.fact 48 (f := .noat "Asking" "picks") rfl), He.noat_ok (c.t.d.fact 49 (f := .noat "Asking" "middle") rfl), He.noat_ok (c.t.d.fact 50 (f := .noat "Asking" "order") rfl), He.noat_ok (c.t.d.fact 51 (f := .noat "Asking" "works") rfl), He.noat_ok (c.t.d.fact 52 (f := .noat "Asking" "breaks") rfl), He.noat_ok (c.t.d.fact 53 (f := .noat "Asking" "sums") rfl), He.noat_ok (c.t.d.fact 54 (f := .noat "Asking" "figures") rfl), He.noat_ok (c.t.d.fact 55 (f := .noat "Asking" "board") rfl)⟩
  obtain ⟨fd, FL⟩ := (c.t.d.def_ 31 (d := ⟨("law", none), "law", "law", defArgs (top 48), defBody (top 48), defScope (top 48), [], []⟩) rfl)
  have e := hfa.symm.trans (He.glo_ok X N (c.t.d.fact 29 (f := .glo "law") rfl))
  cases e
  refine ⟨fd, fun s v => FunD.bindsA (ps := ["_law_script"]) FL (fun _ _ _ _ _ _ us hl => match us, hl with | [_], _ => rfl) s [v] rfl, fun base _ _ hT => ?_⟩
  have F_columns_of := W_columns_of (P := P) (w := w) (base := base) (G := gv K) rfl B (c.t.d.def_ 0 (d := ⟨("columns_of", none), "columns_of", "columns_of", defArgs (top 17), defBody (top 17), defScope (top 17), [], []⟩) rfl) (He.glo_ok X N (c.t.d.fact 0 (f := .glo "columns_of") rfl))  
  have F_are_apart := W_are_apart (P := P) (w := w) (base := base) (G := gv K) rfl B (c.t.d.def_ 1 (d := ⟨("are_apart", none), "are_apart", "are_apart", defArgs (top 18), defBody (top 18), defScope (top 18), [], []⟩) rfl) (He.glo_ok X N (c.t.d.fact 1 (f := .glo "are_apart") rfl))  
  have F_part_of := W_part_of (P := P) (w := w) (base := base) (G := gv K) rfl B (c.t.d.def_ 2 (d := ⟨("part_of", none), "part_of", "part_of", defArgs (top 19), defBody (top 19), defScope (top 19), [], []⟩) rfl) (He.glo_ok X N (c.t.d.fact 2 (f := .glo "part_of") rfl))  
  have F_is_name := W_is_name (P := P) (w := w) (base := base) (G := gv K) rfl B (c.t.d.def_ 3 (d := ⟨("is_name", none), "is_name", "is_name", defArgs (top 33), defBody (top 33), defScope (top 33), [], []⟩) rfl) (He.glo_ok X N (c.t.d.fact 3 (f := .glo "is_name") rfl))  
  have F_is_field := W_is_field (P := P) (w := w) (base := base) (G := gv K) rfl B (c.t.d.def_ 4 (d := ⟨("is_field", none), "is_field", "is_field", defArgs (top 34), defBody (top 34), defScope (top 34), [], []⟩) rfl) (He.glo_ok X N (c.t.d.fact 4 (f := .glo "is_field") rfl))  
  have F_is_card := W_is_card (P := P) (w := w) (base := base) (G := gv K) rfl B (c.t.d.def_ 5 (d := ⟨("is_card", none), "is_card", "is_card", defArgs (top 11), defBody (top 11), defScope (top 11), [], []⟩) rfl) (He.glo_ok X N (c.t.d.fact 5 (f := .glo "is_card") rfl))  
  have F_number_of := W_number_of (P := P) (w := w) (base := base) (G := gv K) rfl B (c.t.d.def_ 6 (d := ⟨("number_of", none), "number_of", "number_of", defArgs (top 20), defBody (top 20), defScope (top 20), [], []⟩) rfl) (He.glo_ok X N (c.t.d.fact 6 (f := .glo "number_of") rfl))  F_part_of
  have F_punch_in := W_punch_in (P := P) (w := w) (base := base) (G := gv K) rfl B (c.t.d.def_ 7 (d := ⟨("punch_in", none), "punch_in", "punch_in", defArgs (top 21), defBody (top 21), defScope (top 21), [], []⟩) rfl) (He.glo_ok X N (c.t.d.fact 7 (f := .glo "punch_in") rfl))  
  have F_work_card := W_work_card (P := P) (w := w) (base := base) (G := gv K) rfl B (c.t.d.def_ 8 (d := ⟨("work_card", none), "work_card", "work_card", defArgs (top 23), defBody (top 23), defScope (top 23), [], []⟩) rfl) (He.glo_ok X N (c.t.d.fact 8 (f := .glo "work_card") rfl))  F_number_of F_punch_in
  have F_is_picked := W_is_picked (P := P) (w := w) (base := base) (G := gv K) rfl B (c.t.d.def_ 9 (d := ⟨("is_picked", none), "is_picked", "is_picked", defArgs (top 27), defBody (top 27), defScope (top 27), [], []⟩) rfl) (He.glo_ok X N (c.t.d.fact 9 (f := .glo "is_picked") rfl))  F_part_of
  have F_first_of_each := W_first_of_each (P := P) (w := w) (base := base) (G := gv K) rfl B (c.t.d.def_ 10 (d := ⟨("first_of_each", none), "first_of_each", "first_of_each", defArgs (top 28), defBody (top 28), defScope (top 28), [], []⟩) rfl) (He.glo_ok X N (c.t.d.fact 10 (f := .glo "first_of_each") rfl))  F_part_of
  have F_rank_of := W_rank_of (P := P) (w := w) (base := base) (G := gv K) rfl B (c.t.d.def_ 11 (d := ⟨("rank_of", none), "rank_of", "rank_of", defArgs (top 10), defBody (top 10), defScope (top 10), [], []⟩) rfl) (He.glo_ok X N (c.t.d.fact 11 (f := .glo "rank_of") rfl))  
  have F_card_of := W_card_of (P := P) (w := w) (base := base) (G := gv K) rfl B (c.t.d.def_ 12 (d := ⟨("card_of", none), "card_of", "card_of", defArgs (top 12), defBody (top 12), defScope (top 12), [], []⟩) rfl) (He.glo_ok X N (c.t.d.fact 12 (f := .glo "card_of") rfl))  F_is_card
  have F_make_board := W_make_board (P := P) (w := w) (base := base) (G := gv K) rfl B (c.t.d.def_ 13 (d := ⟨("make_board", none), "make_board", "make_board", defArgs (top 14), defBody (top 14), defScope (top 14), [], []⟩) rfl) (He.glo_ok X N (c.t.d.fact 13 (f := .glo "make_board") rfl))  
  have F_is_wide := W_is_wide (P := P) (w := w) (base := base) (G := gv K) rfl B (c.t.d.def_ 14 (d := ⟨("is_wide", none), "is_wide", "is_wide", defArgs (top 35), defBody (top 35), defScope (top 35), [], []⟩) rfl) (He.glo_ok X N (c.t.d.fact 14 (f := .glo "is_wide") rfl))  F_card_of F_columns_of
  have F_is_board := W_is_board (P := P) (w := w) (base := base) (G := gv K) rfl B (c.t.d.def_ 15 (d := ⟨("is_board", none), "is_board", "is_board", defArgs (top 36), defBody (top 36), defScope (top 36), [], []⟩) rfl) (He.glo_ok X N (c.t.d.fact 15 (f := .glo "is_board") rfl))  F_make_board
  have F_are_picks := W_are_picks (P := P) (w := w) (base := base) (G := gv K) rfl B (c.t.d.def_ 16 (d := ⟨("are_picks", none), "are_picks", "are_picks", defArgs (top 37), defBody (top 37), defScope (top 37), [], []⟩) rfl) (He.glo_ok X N (c.t.d.fact 16 (f := .glo "are_picks") rfl))  F_is_field F_is_wide F_columns_of
  have F_is_middle := W_is_middle (P := P) (w := w) (base := base) (G := gv K) rfl B (c.t.d.def_ 17 (d := ⟨("is_middle", none), "is_middle", "is_middle", defArgs (top 38), defBody (top 38), defScope (top 38), [], []⟩) rfl) (He.glo_ok X N (c.t.d.fact 17 (f := .glo "is_middle") rfl))  F_is_field F_is_name
  have F_main_field := W_main_field (P := P) (w := w) (base := base) (G := gv K) rfl B (c.t.d.def_ 18 (d := ⟨("main_field", none), "main_field", "main_field", defArgs (top 39), defBody (top 39), defScope (top 39), [], []⟩) rfl) (He.glo_ok X N (c.t.d.fact 18 (f := .glo "main_field") rfl))  
  have F_are_works := W_are_works (P := P) (w := w) (base := base) (G := gv K) rfl B (c.t.d.def_ 19 (d := ⟨("are_works", none), "are_works", "are_works", defArgs (top 40), defBody (top 40), defScope (top 40), [], []⟩) rfl) (He.glo_ok X N (c.t.d.fact 19 (f := .glo "are_works") rfl))  F_is_field F_are_apart
  have F_Asking_is_fit := W_Asking_is_fit (P := P) (w := w) (base := base) (G := gv K) rfl B (c.t.d.def_ 20 (d := ⟨("Asking", some "is_fit"), "is_fit", "Asking.is_fit", defArgs (inClass (top 41) 1), defBody (inClass (top 41) 1), defScope (inClass (top 41) 1), [], []⟩) rfl) (He.meth_ok (c.t.d.fact 57 (f := .meth "Asking" "is_fit") rfl)) F_is_name F_are_picks F_is_middle F_is_field F_is_board F_main_field F_are_works
  have O_AskingU_initU := O_AskingU_initU (P := P) (w := w) (base := base) (G := gv K) rfl B (c.t.d.def_ 21 (d := ⟨("Asking", some "__init__"), "__init__", "Asking.__init__", defArgs (inClass (top 41) 0), defBody (inClass (top 41) 0), defScope (inClass (top 41) 0), [.non, .int 0, .non, .int 6, .non], []⟩) rfl) F_Asking_is_fit
  have K_Asking_5 := M_Asking_5 O_AskingU_initU (He.mkr_ok (c.t.d.fact 56 (f := .mkr "Asking") rfl)) (He.glo_ok X N (c.t.d.fact 30 (f := .glo "Asking") rfl))
  have F_deck_in := W_deck_in (P := P) (w := w) (base := base) (G := gv K) rfl B (c.t.d.def_ 22 (d := ⟨("deck_in", none), "deck_in", "deck_in", defArgs (top 25), defBody (top 25), defScope (top 25), [], []⟩) rfl) (He.glo_ok X N (c.t.d.fact 20 (f := .glo "deck_in") rfl))  
  have F_in_order := W_in_order (P := P) (w := w) (base := base) (G := gv K) rfl B (c.t.d.def_ 23 (d := ⟨("in_order", none), "in_order", "in_order", defArgs (top 26), defBody (top 26), defScope (top 26), [], []⟩) rfl) (He.glo_ok X N (c.t.d.fact 21 (f := .glo "in_order") rfl)) (fun cdv hcd A outer s H E => lt_of (hT ("in_order", none) (by simp [tf])) (code_eq hcd) rfl) F_rank_of
  have F_behind_middle := W_behind_middle (P := P) (w := w) (base := base) (G := gv K) rfl B (c.t.d.def_ 24 (d := ⟨("behind_middle", none), "behind_middle", "behind_middle", defArgs (top 29), defBody (top 29), defScope (top 29), [], []⟩) rfl) (He.glo_ok X N (c.t.d.fact 22 (f := .glo "behind_middle") rfl))  F_first_of_each F_in_order F_columns_of F_deck_in F_part_of
  have F_chosen_deck := W_chosen_deck (P := P) (w := w) (base := base) (G := gv K) rfl B (c.t.d.def_ 25 (d := ⟨("chosen_deck", none), "chosen_deck", "chosen_deck", defArgs (top 30), defBody (top 30), defScope (top 30), [], []⟩) rfl) (He.glo_ok X N (c.t.d.fact 23 (f := .glo "chosen_deck") rfl))  F_deck_in F_is_picked F_behind_middle F_columns_of F_in_order F_work_card
  have F__law_cell := W__law_cell (P := P) (w := w) (base := base) (G := gv K) rfl B (c.t.d.def_ 26 (d := ⟨("_law_cell", none), "_law_cell", "_law_cell", defArgs (top 43), defBody (top 43), defScope (top 43), [], []⟩) rfl) (He.glo_ok X N (c.t.d.fact 24 (f := .glo "_law_cell") rfl))  
  have F__law_card := W__law_card (P := P) (w := w) (base := base) (G := gv K) rfl B (c.t.d.def_ 27 (d := ⟨("_law_card", none), "_law_card", "_law_card", defArgs (top 44), defBody (top 44), defScope (top 44), [], []⟩) rfl) (He.glo_ok X N (c.t.d.fact 25 (f := .glo "_law_card") rfl))  
  have F__law_within := W__law_within (P := P) (w := w) (base := base) (G := gv K) rfl B (c.t.d.def_ 28 (d := ⟨("_law_within", none), "_law_within", "_law_within", defArgs (top 45), defBody (top 45), defScope (top 45), [], []⟩) rfl) (He.glo_ok X N (c.t.d.fact 26 (f := .glo "_law_within") rfl))  
  have F__law_number := W__law_number (P := P) (w := w) (base := base) (G := gv K) rfl B (c.t.d.def_ 29 (d := ⟨("_law_number", none), "_law_number", "_law_number", defArgs (top 46), defBody (top 46), defScope (top 46), [], []⟩) rfl) (He.glo_ok X N (c.t.d.fact 27 (f := .glo "_law_number") rfl))  
  have F__law_worked := W__law_worked (P := P) (w := w) (base := base) (G := gv K) rfl B (c.t.d.def_ 30 (d := ⟨("_law_worked", none), "_law_worked", "_law_worked", defArgs (top 47), defBody (top 47), defScope (top 47), [], []⟩) rfl) (He.glo_ok X N (c.t.d.fact 28 (f := .glo "_law_worked") rfl))  F__law_number
  exact W_law rfl B FL F__law_cell F__law_within F__law_card F__law_worked F_chosen_deck K_Asking_5
theorem pure_law (ns : List Int) (hl : ns.length ≤ 63) (hb : ∀ z ∈ ns, Builtin.Int.intBits z ≤ 1048576) : m_law (⟨ns⟩, ()) = .ok true := pure_law0 ns
end CS
open PySem PySem.W PySem.Calls PyProof.Rows
theorem PySem.Challenge.cw_cardshop_k51_worked_holds : PySem.Challenge.rw_cardshop_k51_worked.Holds := by
  w_on; o_law
  refine HandSHeadRun.head_any (r := OpenLaw.row PySem.Challenge.rw_cardshop_k51_worked) (q := view (OpenLaw.row PySem.Challenge.rw_cardshop_k51_worked).prog [48]) (H := CS.hk) (ob := CS.obs) (M := 6000) (loose := CS.loose) (d := HandSHeadRun.topDef (OpenLaw.row PySem.Challenge.rw_cardshop_k51_worked).prog 48) (kwd := []) CS.obs_eq
    (by kernel_rfl) (fun s => by kernel_rfl) CS.run (by kernel_rfl) (by kernel_rfl) (by kernel_rfl) (by rfl) (by first | assumption | decide +kernel) (by decide +kernel) ⟨rfl, rfl, rfl, rfl, rfl, by decide +kernel⟩ ?hw ?hc
  case hw => w_witness2
  case hc =>
    refine LamX.walk_ofTsE (l := PySem.Challenge.rw_cardshop_k51_worked) (n := 63) (k := 8) (x := "_law_script") (CX := fun w => L2.CX (PySem.Challenge.rw_cardshop_k51_worked).prog w) rfl (by decide) (by kernel_rfl) ⟨rfl, by decide, by decide⟩ ?F (fun w H s e s' z => by
      obtain ⟨_, _, _, _, _, _, _, _, _, _, _, _, no⟩ := z
      exact no)
    intro w mg fl h Y G hmg0
    obtain ⟨K, KX, c⟩ := Y
    have hmg : mg ("law" : PySem.Str) = some (.ref fl) := by
      have e : (HandSHeadRun.topDef (OpenLaw.row PySem.Challenge.rw_cardshop_k51_worked).prog 48).name = ("law" : PySem.Str) := by kernel_rfl
      rw [← e]
      exact hmg0
    obtain ⟨fd, hb, hF⟩ := CS.facts (P := (PySem.Challenge.rw_cardshop_k51_worked).prog) (w := w) KX G hmg c
    refine ⟨K, KX, fd, CS.tf.map (He.cT K), CS.LawSp (CS.gv K) CS.m_law, fun p hp => ?_, fun p hp => ?_, fun p hp => ?_, hb, fun H a ns hl hbits hT hS => ?_, fun base h1 h2 h3 => hF base h1 h2 fun p hp => h3 _ (List.mem_map_of_mem hp)⟩
    · obtain ⟨q, hq, rfl⟩ := List.mem_map.mp hp
      exact c.empty q hq
    · obtain ⟨q, hq, rfl⟩ := List.mem_map.mp hp
      exact c.out q hq
    · obtain ⟨q, hq, rfl⟩ := List.mem_map.mp hp
      exact PySem.W.codeHd_of_K KX (c.hd q hq)
    · refine ⟨a, ns, rfl, hS, fun p hp => ?_, CS.pure_law ns hl hbits, fun _ => rfl⟩
      obtain ⟨q, hq, e2⟩ : ∃ q ∈ CS.tf, (He.cT K q).2 = p.1 := by
        have hp : p ∈ [((He.cT K ("in_order", none)).2, ("in_order.<locals>.<lambda>" : PySem.Str))] := hp
        simp only [List.mem_cons, List.not_mem_nil, or_false] at hp
        subst hp
        exact ⟨_, by simp [CS.tf], rfl⟩
      rw [← e2]
      exact LamX.TabS.nil (hT _ (List.mem_map_of_mem hq))
